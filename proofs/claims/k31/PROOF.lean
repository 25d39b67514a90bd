import PyProof.Rows.All
import Wide.All
import OpenK.AllK
import Wide.FinOn
import PySem.Challenge.RW_freshtold_k31_claims_from_claims
import PyProof.P3Statements
import PyProof.ReprReads
import HandS.ForMost
import HandS.Walk
import HandS.TupAny
import HandS.ReCall
import HandS.TupMul
import HandS.Wide
import HandS.Conv
import HandS.SortInts
import HandS.SetFor
import HandS.More
import KE.KIndexOf
import HandS.EndBits
import PyProof.P3Eq
set_option Elab.async false
set_option linter.all false
set_option maxRecDepth 100000
set_option autoImplicit true
/-! What the constructs of Python say over values without a heap: a store of live lists by frames, everything else a tree. -/
namespace FM
open PySem

inductive Val where
  | non
  | bl (b : Bool)
  | int (i : Int)
  | str (s : Str)
  | tup (xs : List Val)
  /-- a list that is never changed again -/
  | lst (xs : List Val)
  /-- a list that is read only (the script) -/
  | scr (xs : List Val)
  | dct (ks vs : List Val)
  /-- a live object: its frame (from the bottom), its place -/
  | ref (f n : Nat)
  deriving Inhabited

inductive Cell where
  | lst (xs : List Val)
  | dct (ks vs : List Val)
  deriving Inhabited

abbrev S := List (List Cell)
abbrev Env := List (Option Val)
structure Exn where
  cls : String
  arg : Option Val
inductive R (α : Type) where
  | ok (a : α) (s : S)
  | ex (e : Exn) (s : S)
  | no
def R.bind {α β : Type} (r : R α) (f : α → S → R β) : R β := match r with
  | .ok a s => f a s
  | .ex e s => .ex e s
  | .no => .no
@[simp] theorem bind_ok {α β : Type} (a : α) (s : S) (f : α → S → R β) : (R.ok a s).bind f = f a s := rfl
@[simp] theorem bind_ex {α β : Type} (e : Exn) (s : S) (f : α → S → R β) : (R.ex e s : R α).bind f = .ex e s := rfl
@[simp] theorem bind_no {α β : Type} (f : α → S → R β) : (R.no : R α).bind f = .no := rfl
def ofO {α : Type} (o : Option α) (s : S) : R α := match o with
  | some a => .ok a s
  | none => .no
@[simp] theorem ofO_some {α : Type} (a : α) (s : S) : ofO (some a) s = .ok a s := rfl
@[simp] theorem ofO_none {α : Type} (s : S) : ofO (none : Option α) s = .no := rfl

/-! ### the store -/
def lk {α : Type} : List (List α) → Nat → Nat → Option α
  | [], _, _ => none
  | fr :: r, f, n => if f = r.length then fr[n]? else lk r f n
def up : S → Nat → Nat → Cell → S
  | [], _, _, _ => []
  | fr :: r, f, n, c => if f = r.length then fr.set n c :: r else fr :: up r f n c

mutual
/-- no live object within, no dict -/
def pure : Val → Bool
  | .ref _ _ => false
  | .dct _ _ => false
  | .tup xs => pureAll xs
  | .lst xs => pureAll xs
  | .scr xs => pureAll xs
  | .non => true
  | .bl _ => true
  | .int _ => true
  | .str z => PyData.strOk z
def pureAll : List Val → Bool
  | [] => true
  | x :: xs => pure x && pureAll xs
end
mutual
/-- no live object of a frame from k on -/
def below (k : Nat) : Val → Bool
  | .ref f _ => decide (f < k)
  | .dct ks vs => belowAll k ks && belowAll k vs
  | .tup xs => belowAll k xs
  | .lst xs => belowAll k xs
  | .scr xs => belowAll k xs
  | .non => true
  | .bl _ => true
  | .int _ => true
  | .str _ => true
def belowAll (k : Nat) : List Val → Bool
  | [] => true
  | x :: xs => below k x && belowAll k xs
end
mutual
def toD : Val → PyData
  | .non => .none
  | .bl b => .bool b
  | .int i => .int i
  | .str s => .str s
  | .tup xs => .tuple (toDs xs)
  | .lst xs => .list (toDs xs)
  | .scr xs => .list (toDs xs)
  | .dct ks vs => .dict ((toDs ks).zip (toDs vs))
  | .ref _ _ => .none
def toDs : List Val → List PyData
  | [] => []
  | x :: xs => toD x :: toDs xs
end
mutual
def beqV : Val → Val → Bool
  | .non, .non => true
  | .bl a, .bl b => a == b
  | .int a, .int b => a == b
  | .str a, .str b => a == b
  | .tup a, .tup b => beqVs a b
  | .lst a, .lst b => beqVs a b
  | .scr a, .scr b => beqVs a b
  | .dct a b, .dct c d => beqVs a c && beqVs b d
  | .ref a b, .ref c d => a == c && b == d
  | _, _ => false
def beqVs : List Val → List Val → Bool
  | [], [] => true
  | x :: xs, y :: ys => beqV x y && beqVs xs ys
  | _, _ => false
end

/-- a live or a dead list -/
def asL (s : S) : Val → Option (List Val)
  | .lst xs => some xs
  | .scr xs => some xs
  | .ref f n => match lk s f n with
    | some (.lst xs) => some xs
    | _ => none
  | _ => none
def asT : Val → Option (List Val)
  | .tup xs => some xs
  | _ => none
def asQ (s : S) (v : Val) : Option (List Val) := match v with
  | .tup xs => some xs
  | v => asL s v
/-- live objects within are read -/
def res (s : S) : Nat → Val → Option Val
  | 0, v => if pure v = true then some v else none
  | k + 1, v => if pure v = true then some v else match v with
    | .ref f n => match lk s f n with
      | some (.lst xs) => (xs.mapM (res s k)).map .lst
      | _ => none
    | .tup xs => (xs.mapM (res s k)).map .tup
    | .lst xs => (xs.mapM (res s k)).map .lst
    | _ => none

/-! ### operators by values -/
def veq (a b : Val) : Bool := PyData.eqv (toD a) (toD b)
def shallow (a b : Val) : Bool := decide (min (toD a).depth (toD b).depth ≤ 64)
def opEq (s : S) (x y : Val) : Option Val := match x, y with
  | .str a, .str b => some (.bl (decide (a = b)))
  | x, y => match res s 8 x, res s 8 y with
    | some a, some b => if shallow a b = true then some (.bl (veq a b)) else none
    | _, _ => none
def opNe (s : S) (x y : Val) : Option Val := match x, y with
  | .str a, .str b => some (.bl (!decide (a = b)))
  | x, y => match res s 8 x, res s 8 y with
    | some a, some b => if shallow a b = true then some (.bl (!veq a b)) else none
    | _, _ => none
def opAdd (s : S) (x y : Val) : Option Val := match x, y with
  | .int i, .int j => some (.int (i + j))
  | .str a, .str b => if a.length + b.length ≤ sizeLine then some (.str (a ++ b)) else none
  | .tup a, .tup b => if a.length + b.length ≤ sizeLine then some (.tup (a ++ b)) else none
  | _, _ => none
def opSub (s : S) (x y : Val) : Option Val := match x, y with
  | .int i, .int j => some (.int (i - j))
  | _, _ => none
def opMul (s : S) (x y : Val) : Option Val := match x, y with
  | .int i, .int j => if i.natAbs < 2 ^ 64 ∨ j.natAbs < 2 ^ 64 then some (.int (i * j)) else none
  | _, _ => none
def opMod (s : S) (x y : Val) : Option Val := match x, y with
  | .int i, .int j => if 0 < j then some (.int (i % j)) else none
  | _, _ => none
def opDiv (s : S) (x y : Val) : Option Val := match x, y with
  | .int i, .int j => if 0 < j ∧ j < 2 ^ 30 then some (.int (i / j)) else none
  | _, _ => none
def opPow (s : S) (x y : Val) : Option Val := match x, y with
  | .int i, .int j => if 0 ≤ j ∧ j ≤ 1000000 ∧ i.natAbs < 2 ^ 64 then some (.int (i ^ j.toNat)) else none
  | _, _ => none
def opI (f : Int → Int → Bool) (s : S) (x y : Val) : Option Val := match x, y with
  | .int i, .int j => some (.bl (f i j))
  | _, _ => none
def opLt := opI fun i j => decide (i < j)
def opLe := opI fun i j => decide (i ≤ j)
def opGt := opI fun i j => decide (j < i)
def opGe := opI fun i j => decide (j ≤ i)
/-- x in y -/
def inQ (s : S) (x y : Val) : Option Bool := match asQ s y with
  | some xs => match res s 8 x, xs.mapM (res s 8) with
    | some a, some ys => if shallow (.lst ys) a = true then some (ys.any fun z => veq z a) else none
    | _, _ => none
  | none => none
def opIn (s : S) (x y : Val) : Option Val := (inQ s x y).map .bl
def opNotIn (s : S) (x y : Val) : Option Val := (inQ s x y).map fun b => .bl (!b)
def ixN (n : Nat) (i : Int) : Option Nat := if 0 ≤ i then (if i < n then some i.toNat else none) else if -(n : Int) ≤ i then some (i + n).toNat else none
def opIx (s : S) (x y : Val) : Option Val := match asQ s x, y with
  | some xs, .int i => (ixN xs.length i).bind fun j => xs[j]?
  | _, _ => none
def sIx (n d : Nat) : Option Int → Nat
  | none => d
  | some v => if v < 0 then (v + (n : Int)).toNat else min v.toNat n
def cutL {α : Type} (xs : List α) (lo hi : Option Int) : List α := (xs.drop (sIx xs.length 0 lo)).take (sIx xs.length xs.length hi - sIx xs.length 0 lo)

/-! ### expressions -/
abbrev Ex := Env → S → R Val
abbrev Tx := Env → S → R Bool
abbrev Ax := Env → S → R (List Val)
/-- an expression that makes a new list -/
abbrev Fx := Env → S → R (List Val)
def eVar (i : Nat) : Ex := fun ρ s => match ρ[i]? with
  | some (some v) => .ok v s
  | _ => .no
def eC (v : Val) : Ex := fun _ s => .ok v s
def eOp (f : S → Val → Val → Option Val) (a b : Ex) : Ex := fun ρ s => (a ρ s).bind fun x s1 => (b ρ s1).bind fun y s2 => ofO (f s2 x y) s2
def eOp1 (f : S → Val → Option Val) (a : Ex) : Ex := fun ρ s => (a ρ s).bind fun x s1 => ofO (f s1 x) s1
def aNil : Ax := fun _ s => .ok [] s
def aCons (a : Ex) (r : Ax) : Ax := fun ρ s => (a ρ s).bind fun x s1 => (r ρ s1).bind fun xs s2 => .ok (x :: xs) s2
def eTup (a : Ax) : Ex := fun ρ s => (a ρ s).bind fun xs s1 => .ok (.tup xs) s1
def eIf (c : Tx) (a b : Ex) : Ex := fun ρ s => (c ρ s).bind fun t s1 => if t = true then a ρ s1 else b ρ s1
def eAnd (a b : Ex) : Ex := fun ρ s => (a ρ s).bind fun x s1 => match x with
  | .bl true => b ρ s1
  | .bl false => .ok (.bl false) s1
  | _ => .no
def eOr (a b : Ex) : Ex := fun ρ s => (a ρ s).bind fun x s1 => match x with
  | .bl true => .ok (.bl true) s1
  | .bl false => b ρ s1
  | _ => .no
def eNot (a : Ex) : Ex := fun ρ s => (a ρ s).bind fun x s1 => match x with
  | .bl b => .ok (.bl (!b)) s1
  | _ => .no
def isN : Val → Bool
  | .non => true
  | _ => false
def eIsN (a : Ex) : Ex := fun ρ s => (a ρ s).bind fun x s1 => .ok (.bl (isN x)) s1
def eNotN (a : Ex) : Ex := fun ρ s => (a ρ s).bind fun x s1 => .ok (.bl (!isN x)) s1
/-- a op b op' c -/
def eChain (f g : S → Val → Val → Option Val) (a b c : Ex) : Ex := fun ρ s => (a ρ s).bind fun x s1 => (b ρ s1).bind fun y s2 => (ofO (f s2 x y) s2).bind fun t s3 => match t with
  | .bl true => (c ρ s3).bind fun z s4 => ofO (g s4 y z) s4
  | .bl false => .ok (.bl false) s3
  | _ => .no
/-- builtins by values -/
def eCall (f : S → List Val → Option Val) (a : Ax) : Ex := fun ρ s => (a ρ s).bind fun xs s1 => ofO (f s1 xs) s1
abbrev Ox := Env → S → R (Option Int)
def oNone : Ox := fun _ s => .ok none s
def oSome (a : Ex) : Ox := fun ρ s => (a ρ s).bind fun x s1 => match x with
  | .int i => .ok (some i) s1
  | _ => .no
/-- a tuple's slice -/
def eSlT (a : Ex) (lo hi : Ox) : Ex := fun ρ s => (a ρ s).bind fun x s1 => (lo ρ s1).bind fun l s2 => (hi ρ s2).bind fun h s3 => match x with
  | .tup xs => .ok (.tup (cutL xs l h)) s3
  | _ => .no
/-- a list's slice: a new list -/
def fSl (a : Ex) (lo hi : Ox) : Fx := fun ρ s => (a ρ s).bind fun x s1 => (lo ρ s1).bind fun l s2 => (hi ρ s2).bind fun h s3 => match asL s3 x with
  | some xs => .ok (cutL xs l h) s3
  | none => .no

/-! ### tests -/
def tVal (a : Ex) : Tx := fun ρ s => (a ρ s).bind fun x s1 => match x with
  | .bl b => .ok b s1
  | _ => .no
def tAnd (a b : Tx) : Tx := fun ρ s => (a ρ s).bind fun x s1 => if x = true then b ρ s1 else .ok false s1
def tOr (a b : Tx) : Tx := fun ρ s => (a ρ s).bind fun x s1 => if x = true then .ok true s1 else b ρ s1
def tNot (a : Tx) : Tx := fun ρ s => (a ρ s).bind fun x s1 => .ok (!x) s1
def tYes : Tx := fun _ s => .ok true s

/-! ### targets -/
abbrev Gx := Val → Env → Option Env
def gName (i : Nat) : Gx := fun v ρ => some (ρ.set i (some v))
def gAll : List Gx → List Val → Env → Option Env
  | [], [], ρ => some ρ
  | g :: gs, v :: vs, ρ => match g v ρ with
    | some ρ1 => gAll gs vs ρ1
    | none => none
  | _, _, _ => none
def gTup (gs : List Gx) : Gx := fun v ρ => match v with
  | .tup xs => gAll gs xs ρ
  | _ => none

/-! ### what is walked -/
abbrev Ix := Env → S → R (List Val × (S → Bool))
def still (v : Val) (xs : List Val) : S → Bool := match v with
  | .ref f n => fun s => match lk s f n with
    | some (.lst ys) => beqVs ys xs
    | _ => false
  | _ => fun _ => true
def iSeq (a : Ex) : Ix := fun ρ s => (a ρ s).bind fun x s1 => match asQ s1 x with
  | some xs => .ok (xs, still x xs) s1
  | none => .no
def rangeV (lo : Int) (n : Nat) : List Val := (List.range n).map fun (i : Nat) => .int (lo + (i : Int))
def iRange1 (a : Ex) : Ix := fun ρ s => (a ρ s).bind fun x s1 => match x with
  | .int n => if -(2 ^ 60) < n ∧ n ≤ sizeLine then .ok (rangeV 0 n.toNat, fun _ => true) s1 else .no
  | _ => .no
def iRange2 (a b : Ex) : Ix := fun ρ s => (a ρ s).bind fun x s1 => (b ρ s1).bind fun y s2 => match x, y with
  | .int m, .int n => if -(2 ^ 60) < m ∧ m < 2 ^ 60 ∧ -(2 ^ 60) < n ∧ n < 2 ^ 60 ∧ n - m ≤ sizeLine then .ok (rangeV m (n - m).toNat, fun _ => true) s2 else .no
  | _, _ => .no
def iEnum (a : Ex) : Ix := fun ρ s => (a ρ s).bind fun x s1 => match asQ s1 x with
  | some xs => .ok ((xs.zipIdx).map fun p => .tup [.int p.2, p.1], still x xs) s1
  | none => .no
def iZip (a b : Ex) : Ix := fun ρ s => (a ρ s).bind fun x s1 => (b ρ s1).bind fun y s2 => match asQ s2 x, asQ s2 y with
  | some xs, some ys => .ok ((xs.zip ys).map fun p => .tup [p.1, p.2], fun s => still x xs s && still y ys s) s2
  | _, _ => .no

/-! ### comprehensions -/
def compL (keep : S → Bool) (g : Gx) (t : Tx) (e : Ex) (ρ : Env) : List Val → List Val → S → R (List Val)
  | [], acc, s => if keep s = true then .ok acc s else .no
  | x :: xs, acc, s => if keep s = true then match g x ρ with
      | some ρ1 => (t ρ1 s).bind fun b s1 => if b = true then (e ρ1 s1).bind fun y s2 => compL keep g t e ρ xs (acc ++ [y]) s2 else compL keep g t e ρ xs acc s1
      | none => .no
    else .no
def wipe (ρ : Env) : List Nat → Env
  | [] => ρ
  | v :: vs => (wipe ρ vs).set v none
def R.nox {α : Type} (r : R α) : R α := match r with
  | .ok a s => .ok a s
  | _ => .no
@[simp] theorem nox_ok {α : Type} (a : α) (s : S) : (R.ok a s).nox = .ok a s := rfl
def fComp (it : Ix) (own : List Nat) (g : Gx) (t : Tx) (e : Ex) : Fx := fun ρ s => (it ρ s).bind fun p s1 => (compL p.2 g t e (wipe ρ own) p.1 [] s1).nox
def fLst (a : Ax) : Fx := a
/-- list(range(n)) -/
def fRange (a : Ex) : Fx := fun ρ s => (a ρ s).bind fun x s1 => match x with
  | .int n => if -(2 ^ 60) < n ∧ n ≤ sizeLine then .ok (rangeV 0 n.toNat) s1 else .no
  | _ => .no
/-- list(x) -/
def fList (a : Ex) : Fx := fun ρ s => (a ρ s).bind fun x s1 => match asQ s1 x with
  | some xs => .ok xs s1
  | none => .no
/-- a list that is not the script -/
def asLn (s : S) (v : Val) : Option (List Val) := match v with
  | .scr _ => none
  | v => asL s v
theorem asLn_asL {s : S} {v : Val} {xs : List Val} (h : asLn s v = some xs) : asL s v = some xs := by
  unfold asLn at h
  split at h
  · cases h
  · exact h
def fAdd (a b : Ex) : Fx := fun ρ s => (a ρ s).bind fun x s1 => (b ρ s1).bind fun y s2 => match asLn s2 x, asLn s2 y with
  | some xs, some ys => if xs.length + ys.length ≤ sizeLine then .ok (xs ++ ys) s2 else .no
  | _, _ => .no
def fMul (a b : Ex) : Fx := fun ρ s => (a ρ s).bind fun x s1 => (b ρ s1).bind fun y s2 => match asLn s2 x, y with
  | some xs, .int j => if -(2 ^ 63) ≤ j ∧ j < 2 ^ 63 ∧ xs.length * j.toNat ≤ sizeLine then .ok (List.replicate j.toNat xs).flatten s2 else .no
  | _, _ => .no
def intsOf : List Val → Option (List Int)
  | [] => some []
  | .int i :: r => (intsOf r).map (i :: ·)
  | _ => none
def sortI (ns : List Int) : List Int := ns.mergeSort fun a b => decide (a ≤ b)
/-- sorted(list of ints) -/
def fSortedI (a : Ex) : Fx := fun ρ s => (a ρ s).bind fun x s1 => match (asL s1 x).bind intsOf with
  | some ns => .ok ((sortI ns).map .int) s1
  | none => .no
/-- a new list, dead at once -/
def eDead (f : Fx) : Ex := fun ρ s => (f ρ s).bind fun xs s1 => .ok (.lst xs) s1
def pushC (c : Cell) : S → R Val
  | fr :: r => .ok (.ref r.length fr.length) ((fr ++ [c]) :: r)
  | [] => .no
/-- a new list that lives -/
def eLive (f : Fx) : Ex := fun ρ s => (f ρ s).bind fun xs s1 => pushC (.lst xs) s1
/-- tuple(a new list), tuple(x) -/
def eTupleF (f : Fx) : Ex := fun ρ s => (f ρ s).bind fun xs s1 => .ok (.tup xs) s1

/-! ### builtins by values -/
def bLen (s : S) : List Val → Option Val
  | [.str x] => if x.length ≤ sizeLine then some (.int x.length) else none
  | [x] => (asQ s x).map fun xs => .int xs.length
  | _ => none
def bAbs (s : S) : List Val → Option Val
  | [.int i] => some (.int (if i < 0 then -i else i))
  | _ => none
def bInt (s : S) : List Val → Option Val
  | [.int i] => some (.int i)
  | [.bl b] => some (.int (if b = true then 1 else 0))
  | _ => none
def bTuple (s : S) : List Val → Option Val
  | [x] => (asQ s x).map .tup
  | _ => none
def bSum (s : S) : List Val → Option Val
  | [x] => ((asL s x).bind intsOf).map fun ns => .int ns.sum
  | _ => none
def maxI : List Int → Option Int
  | [] => none
  | n :: ns => some (ns.foldl max n)
def bMax (s : S) : List Val → Option Val
  | [x] => (((asL s x).bind intsOf).bind maxI).map .int
  | _ => none
def boolsOf : List Val → Option (List Bool)
  | [] => some []
  | .bl b :: r => (boolsOf r).map (b :: ·)
  | _ => none
def bAll (s : S) : List Val → Option Val
  | [x] => ((asL s x).bind boolsOf).map fun bs => .bl (bs.all id)
  | _ => none
def bAny (s : S) : List Val → Option Val
  | [x] => ((asL s x).bind boolsOf).map fun bs => .bl (bs.any id)
  | _ => none
def bRepr (s : S) : List Val → Option Val
  | [x] => match res s 8 x with
    | some a => if (toD a).showable = true ∧ (toD a).shown.length ≤ sizeLine ∧ (toD a).depth ≤ 64 then some (.str (toD a).shown) else none
    | none => none
  | _ => none
/-- xs.index(k), of ints, there -/
def bIndexT (s : S) (x : Val) : List Val → Option Val
  | [.int k] => match (asT x).bind intsOf with
    | some ns => if k ∈ ns then some (.int (ns.idxOf k : Nat)) else none
    | none => none
  | _ => none
def bIndex (s : S) (x : Val) : List Val → Option Val
  | [.int k] => match (asL s x).bind intsOf with
    | some ns => if k ∈ ns then some (.int (ns.idxOf k : Nat)) else none
    | none => none
  | _ => none
/-- methods of lists that do not change them -/
def eMeth (f : S → Val → List Val → Option Val) (o : Ex) (a : Ax) : Ex := fun ρ s => (o ρ s).bind fun x s1 => if (asL s1 x).isSome = true then (a ρ s1).bind fun xs s2 => ofO (f s2 x xs) s2 else .no
/-- of tuples -/
def eMethT (f : S → Val → List Val → Option Val) (o : Ex) (a : Ax) : Ex := fun ρ s => (o ρ s).bind fun x s1 => if (asT x).isSome = true then (a ρ s1).bind fun xs s2 => ofO (f s2 x xs) s2 else .no
/-- methods of a live list that change it -/
def chg (s : S) (x : Val) (f : List Val → Option (List Val)) (new : List Val) : R Val := match x with
  | .ref k n => match lk s k n with
    | some (.lst xs) => match f xs with
      | some ys => if k + 1 = s.length ∨ belowAll (k + 1) new = true then .ok .non (up s k n (.lst ys)) else .no
      | none => .no
    | _ => .no
  | _ => .no
def isL (s : S) (v : Val) : Bool := (asL s v).isSome
def eChg (f : S → List Val → List Val → Option (List Val)) (o : Ex) (a : Ax) : Ex := fun ρ s => (o ρ s).bind fun x s1 => if isL s1 x = true then (a ρ s1).bind fun xs s2 => chg s2 x (f s2 xs) xs else .no
def cAppend (s : S) : List Val → List Val → Option (List Val)
  | [y], xs => if xs.length < sizeLine then some (xs ++ [y]) else none
  | _, _ => none
def cInsert (s : S) : List Val → List Val → Option (List Val)
  | [.int i, y], xs => if xs.length < sizeLine ∧ 0 ≤ i ∧ i < 2 ^ 63 then some (xs.take i.toNat ++ [y] ++ xs.drop i.toNat) else none
  | _, _ => none
def remI (k : Int) (ns : List Int) : Option (List Int) := if k ∈ ns then some (ns.eraseIdx (ns.idxOf k)) else none
/-- xs.remove(k), of ints, there -/
def cRemove (s : S) : List Val → List Val → Option (List Val)
  | [.int k], xs => ((intsOf xs).bind (remI k)).map fun ns => ns.map .int
  | _, _ => none
/-- xs.extend(a new list) -/
def eExtend (o : Ex) (f : Fx) : Ex := fun ρ s => (o ρ s).bind fun x s1 => if isL s1 x = true then (f ρ s1).bind fun ys s2 => chg s2 x (fun xs => if xs.length + ys.length ≤ sizeLine then some (xs ++ ys) else none) ys else .no
/-- xs.extend(ys), ys a list that stands -/
def cExtend (s : S) : List Val → List Val → Option (List Val)
  | [y], xs => match asLn s y with
    | some ys => if xs.length + ys.length ≤ sizeLine then some (xs ++ ys) else none
    | none => none
  | _, _ => none

/-! ### statements -/
inductive F where
  | nx (ρ : Env) (s : S)
  | rt (v : Val) (s : S)
  | bk (ρ : Env) (s : S)
  | ct (ρ : Env) (s : S)
  | ex (e : Exn) (s : S)
  | no
abbrev Sx := Env → S → F
def R.seq {α : Type} (r : R α) (f : α → S → F) : F := match r with
  | .ok a s => f a s
  | .ex e s => .ex e s
  | .no => .no
@[simp] theorem seq_ok {α : Type} (a : α) (s : S) (f : α → S → F) : (R.ok a s).seq f = f a s := rfl
@[simp] theorem seq_ex {α : Type} (e : Exn) (s : S) (f : α → S → F) : (R.ex e s : R α).seq f = .ex e s := rfl
@[simp] theorem seq_no {α : Type} (f : α → S → F) : (R.no : R α).seq f = .no := rfl
def F.then (r : F) (f : Env → S → F) : F := match r with
  | .nx ρ s => f ρ s
  | r => r
@[simp] theorem then_nx (ρ : Env) (s : S) (f : Env → S → F) : (F.nx ρ s).then f = f ρ s := rfl
@[simp] theorem then_rt (v : Val) (s : S) (f : Env → S → F) : (F.rt v s).then f = .rt v s := rfl
@[simp] theorem then_bk (ρ : Env) (s : S) (f : Env → S → F) : (F.bk ρ s).then f = .bk ρ s := rfl
@[simp] theorem then_ct (ρ : Env) (s : S) (f : Env → S → F) : (F.ct ρ s).then f = .ct ρ s := rfl
@[simp] theorem then_ex (e : Exn) (s : S) (f : Env → S → F) : (F.ex e s).then f = .ex e s := rfl
@[simp] theorem then_no (f : Env → S → F) : F.no.then f = .no := rfl
def sNil : Sx := fun ρ s => .nx ρ s
def sCons (a r : Sx) : Sx := fun ρ s => (a ρ s).then r
def sAsg (e : Ex) (g : Gx) : Sx := fun ρ s => (e ρ s).seq fun v s1 => match g v ρ with
  | some ρ1 => .nx ρ1 s1
  | none => .no
/-- a, b = x, y -/
def sPar (i j : Nat) (a b : Ex) : Sx := fun ρ s => (a ρ s).seq fun x s1 => (b ρ s1).seq fun y s2 => .nx ((ρ.set i (some x)).set j (some y)) s2
def sExpr (e : Ex) : Sx := fun ρ s => (e ρ s).seq fun _ s1 => .nx ρ s1
def sRet (e : Ex) : Sx := fun ρ s => (e ρ s).seq fun v s1 => .rt v s1
def sIf (c : Tx) (a b : Sx) : Sx := fun ρ s => (c ρ s).seq fun t s1 => if t = true then a ρ s1 else b ρ s1
/-- xs[i] = e of a live list -/
def setL (s : S) (x i v : Val) : Option S := match x, i with
  | .ref k n, .int j => match lk s k n with
    | some (.lst xs) => match ixN xs.length j with
      | some m => if k + 1 = s.length ∨ below (k + 1) v = true then some (up s k n (.lst (xs.set m v))) else none
      | none => none
    | _ => none
  | _, _ => none
def sSub (o i e : Ex) : Sx := fun ρ s => (e ρ s).seq fun v s1 => (o ρ s1).seq fun x s2 => (i ρ s2).seq fun y s3 => match setL s3 x y v with
  | some s4 => .nx ρ s4
  | none => .no
/-- xs[i], 0 ≤ i, of a list -/
def opIxN (s : S) (x y : Val) : Option Val := match y with
  | .int i => if 0 ≤ i then (match asL s x with
    | some xs => (ixN xs.length i).bind fun j => xs[j]?
    | none => none) else none
  | _ => none
def opAddI (s : S) (x y : Val) : Option Val := match x, y with
  | .int i, .int j => some (.int (i + j))
  | _, _ => none
/-- xs[i] op= e -/
def sAugSub (f : S → Val → Val → Option Val) (o i e : Ex) : Sx := fun ρ s => (o ρ s).seq fun x s1 => (i ρ s1).seq fun y s2 => (ofO (opIxN s2 x y) s2).seq fun old s3 => (e ρ s3).seq fun v s4 => (ofO (f s4 old v) s4).seq fun w s5 =>
  match setL s5 x y w with
  | some s6 => .nx ρ s6
  | none => .no
/-- x op= e -/
def sAug (i : Nat) (f : S → Val → Val → Option Val) (e : Ex) : Sx := fun ρ s => match ρ[i]? with
  | some (some x) => (e ρ s).seq fun y s1 => (ofO (f s1 x y) s1).seq fun z s2 => .nx (ρ.set i (some z)) s2
  | _ => .no
def sPass : Sx := fun ρ s => .nx ρ s
def sBrk : Sx := fun ρ s => .bk ρ s
def sCnt : Sx := fun ρ s => .ct ρ s
def forL (keep : S → Bool) (g : Gx) (b : Sx) : List Val → Sx
  | [], ρ, s => if keep s = true then .nx ρ s else .no
  | x :: xs, ρ, s => if keep s = true then match g x ρ with
      | some ρ1 => match b ρ1 s with
        | .nx ρ2 s2 => forL keep g b xs ρ2 s2
        | .ct ρ2 s2 => forL keep g b xs ρ2 s2
        | .bk ρ2 s2 => .nx ρ2 s2
        | .rt v s2 => .rt v s2
        | .ex e s2 => .ex e s2
        | .no => .no
      | none => .no
    else .no
def sFor (it : Ix) (g : Gx) (b : Sx) : Sx := fun ρ s => (it ρ s).seq fun p s1 => forL p.2 g b p.1 ρ s1
def whileL (c : Tx) (b : Sx) : Nat → Sx
  | 0, _, _ => .no
  | n + 1, ρ, s => (c ρ s).seq fun t s1 => if t = true then match b ρ s1 with
      | .nx ρ2 s2 => whileL c b n ρ2 s2
      | .ct ρ2 s2 => whileL c b n ρ2 s2
      | .bk ρ2 s2 => .nx ρ2 s2
      | .rt v s2 => .rt v s2
      | .ex e s2 => .ex e s2
      | .no => .no
    else .nx ρ s1
def sWhile (n : Nat) (c : Tx) (b : Sx) : Sx := whileL c b n

/-! ### defs -/
inductive Ret where
  | val (v : Val)
  | cell (c : Cell)
/-- live objects of the frame d are read off -/
def frz (d : Nat) (fr : List Cell) : Nat → Val → Option Val
  | 0, v => if below d v = true then some v else none
  | k + 1, v => if below d v = true then some v else match v with
    | .ref f n => if f = d then (match fr[n]? with
      | some (.lst xs) => (xs.mapM (frz d fr k)).map .lst
      | _ => none) else none
    | .tup xs => (xs.mapM (frz d fr k)).map .tup
    | .lst xs => (xs.mapM (frz d fr k)).map .lst
    | _ => none
def retOf (d : Nat) (fr : List Cell) (v : Val) : Option Ret := match v with
  | .ref f n => if f = d then (match fr[n]? with
    | some (.lst xs) => if belowAll d xs = true then some (.cell (.lst xs)) else (frz d fr 8 (.ref f n)).map .val
    | _ => none) else some (.val (.ref f n))
  | v => (frz d fr 8 v).map .val
abbrev Fn := List Val → S → R Ret
def finish (v : Val) : S → R Ret
  | fr :: r => ofO (retOf r.length fr v) r
  | [] => .no
def mkFn (n np : Nat) (body : Sx) : Fn := fun args s => if args.length = np then match body (args.map some ++ List.replicate (n - np) none) ([] :: s) with
    | .rt v s1 => finish v s1
    | .nx _ s1 => finish .non s1
    | _ => .no
  else .no
/-- a call whose new list is dead at once -/
def eFn (f : Fn) (a : Ax) : Ex := fun ρ s => (a ρ s).bind fun xs s1 => (f xs s1).bind fun r s2 => match r with
  | .val v => .ok v s2
  | .cell (.lst ys) => .ok (.lst ys) s2
  | .cell (.dct _ _) => .no
/-- .. lives on -/
def eFnL (f : Fn) (a : Ax) : Ex := fun ρ s => (a ρ s).bind fun xs s1 => (f xs s1).bind fun r s2 => match r with
  | .val v => .ok v s2
  | .cell (.lst ys) => pushC (.lst ys) s2
  | .cell (.dct _ _) => .no
end FM

set_option autoImplicit false
/-! tuples that are told with their whole object (so that their methods are found) -/
namespace FM
open PySem PySem.Spec PyProof.Rows L2

/-- the object of a tuple, known -/
def IsTO (u : HO) (xs : List V) : Prop := ∃ o : Obj, u = .frz o (.tup xs) ∧ o.dict = none ∧ o.cls = .type "tuple"
def RTup (K : PySem.W.Frag) (H : Hp) (a : Addr) (xs : List V) : Prop :=
  (∃ u, H a = some u ∧ IsTO u xs) ∨
    ∃ (o : Obj) (its : Array Value) (n : Nat), K.lookup a = some o ∧ o.cls = .type "tuple" ∧ o.dict = none ∧ o.data = .seq its n ∧ its.size ≤ sizeLine ∧ Vals xs its.toList
theorem RTup.sqT {K : PySem.W.Frag} {H : Hp} {a : Addr} {xs : List V} (h : RTup K H a xs) : SqT K H a xs := by
  rcases h with ⟨u, h, o, e, _, _⟩ | ⟨o, its, n, h1, h2, _, h3⟩
  · exact .inl (.inr ⟨o, by rw [h, e]⟩)
  · exact .inr ⟨o, its, n, h1, h2, h3⟩
theorem RTup.of {K : PySem.W.Frag} {H : Hp} {a : Addr} {u : HO} {xs : List V} (h : H a = some u) (t : IsTO u xs) : RTup K H a xs := .inl ⟨u, h, t⟩
theorem IsTO.ne {u : HO} {xs vs : List V} (t : IsTO u xs) : u ≠ .lst vs := by
  obtain ⟨o, e, _⟩ := t
  rw [e]
  intro z; cases z

section
variable {X : Cx} {pins : List (Addr × Obj)} {σ : L2.St} {H : Hp} {s : Shared}
/-- a new tuple laid -/
theorem laidT (I : Inv X pins σ H s) {us : List Value} {xs : List V} (r : Vals xs us) (hl : xs.length ≤ sizeLine) {tk : Nat} :
    ∃ u, IsTO u xs ∧ H s.heap.objs.size = none ∧ Inv X pins σ (upd H s.heap.objs.size u) { s with heap := s.heap.push { cls := .type "tuple", data := .seq us.toArray }, toks := tk } := by
  refine ⟨.frz { cls := .type "tuple", data := .seq us.toArray } (.tup xs), ⟨_, rfl, rfl, rfl⟩, I.hok.fresh (Nat.le_refl _), ?_⟩
  refine I.laid (t' := tk) (fun b ob q => Heap.get?_push_of_some _ q) (Nat.le_refl _) ?_
  exact ⟨Heap.get?_push_size _ rfl, hl, us, r, IsTup.new _ _⟩
end
section
variable {X : Cx} {es : List Expr} {t : TA} {pos : Pos}
def tTupF (t : TA) : TE := fun σ H Q => t σ H fun xs H1 => xs.length ≤ sizeLine ∧ ∀ p u, H1 p = none → IsTO u xs → Q (.ref p) (upd H1 p u)
theorem pe_tupF {k : Nat} (h : PA X es t) : PE X (.Tuple es k pos) (tTupF t) := by
  constructor
  intro pins s σ H Q I hq
  refine wpAny_Tuple_spliced (thn (h.run pos pins s σ H _ I hq) ?_)
  intro us s1 hh
  obtain ⟨xs, H1, I1, r, z, q⟩ := hh
  obtain ⟨u, tu, hn, I2⟩ := laidT (tk := s1.toks) I1 r z
  exact ⟨by rw [← r.length]; exact z, .ref s1.heap.objs.size, _, I2, rfl, q _ u hn tu⟩
def rCatF (K : PySem.W.Frag) : R2 := fun x y H Q => ∃ a b xs ys, x = .ref a ∧ y = .ref b ∧ SqT K H a xs ∧ SqT K H b ys ∧ xs.length + ys.length ≤ sizeLine ∧
  (xs = [] → Q (.ref b) H) ∧ (ys = [] → Q (.ref a) H) ∧ ∀ p u, H p = none → IsTO u (xs ++ ys) → Q (.ref p) (upd H p u)
theorem op_catF : OpR X (binaryOp .Add) (rCatF X.K) := by
  intro pins s σ H x y v u Q I rx ry h
  obtain ⟨a, b, xs, ys, rfl, rfl, ha, hb, hz, q0, q1, q2⟩ := h
  cases rx
  cases ry
  obtain ⟨us, r1, p1, _⟩ := I.tuple ha
  obtain ⟨ws, r2, p2, _⟩ := I.tuple hb
  by_cases hx : xs = []
  · subst hx
    cases r1
    exact cat_tup0 p1 p2 ⟨.ref b, H, I, rfl, q0 rfl⟩
  · refine HT.cat_tup p1 p2 (fun z => hx (r1.nil_iff.mp z)) (fun z => ⟨.ref a, H, I, rfl, q1 (r2.nil_iff.mp z)⟩) (fun z => ?_) (by rw [← r1.length, ← r2.length]; exact hz)
    obtain ⟨u, tu, hn, I2⟩ := laidT (tk := s.toks) I (r1.append r2) (by rw [List.length_append]; exact hz)
    exact ⟨.ref s.heap.objs.size, _, I2, rfl, q2 _ u hn tu⟩
def rSlF (K : PySem.W.Frag) : V → Option Int → Option Int → Hp → VK → Prop := fun x lo hi H Q => ∃ a xs, x = .ref a ∧ SqT K H a xs ∧
  (HT.sIx xs.length 0 lo = 0 ∧ HT.sIx xs.length xs.length hi = xs.length → Q (.ref a) H) ∧ ∀ p u, H p = none → IsTO u (cutV xs lo hi) → Q (.ref p) (upd H p u)
theorem sl_tupF : SlR X (rSlF X.K) := by
  intro pins s σ H x v vl vu lo hi sl Q I rx hs pl pu h
  obtain ⟨a, xs, rfl, hx, q1, q2⟩ := h
  cases rx
  obtain ⟨its, r, ht, hz⟩ := I.tuple hx
  have hlen : its.toArray.size = xs.length := by rw [List.size_toArray]; exact r.length.symm
  refine ⟨"tuple", _, PyProof.Rows.slot_tuple_getitem.lookup, ht.typeIs, ?_⟩
  by_cases hw : HT.sIx xs.length 0 lo = 0 ∧ HT.sIx xs.length xs.length hi = xs.length
  · exact getItem_tuple_whole ht hs pl pu (by rw [hlen]; exact hw) ⟨.ref a, H, I, rfl, q1 hw⟩
  · refine HT.getItem_tuple_cut ht hs pl pu (by rw [hlen]; exact hw) ?_ (by rw [hlen]; exact hz)
    rw [hlen]
    have r2 : Vals (cutV xs lo hi) ((its.drop (HT.sIx xs.length 0 lo)).take (HT.sIx xs.length xs.length hi - HT.sIx xs.length 0 lo)) := (r.drop _).take _
    obtain ⟨u, tu, hn, I2⟩ := laidT (tk := s.toks) I r2 (Nat.le_trans (cutV_length _ _ _) hz)
    exact ⟨.ref s.heap.objs.size, _, I2, rfl, q2 _ u hn tu⟩
def rTupOf (K : PySem.W.Frag) : List V → Hp → VK → Prop := fun xs H Q => ∃ p ys, xs = [.ref p] ∧ ((SqL K H p ys ∧ ∀ l u, H l = none → IsTO u ys → Q (.ref l) (upd H l u)) ∨ (SqT K H p ys ∧ Q (.ref p) H))
theorem call_tupF : CallR X (.type "tuple") (rTupOf X.K) := by
  intro pins s σ H xs us Q I r h
  obtain ⟨p, ys, rfl, h⟩ := h
  rw [Vals.ref1 r]
  rcases h with ⟨hq, q⟩ | ⟨hq, q⟩
  · obtain ⟨its, r', pl, hz⟩ := I.list hq
    refine call_tuple_list pl.isList (fun h' kp => ?_) (by rw [List.size_toArray, ← r'.length]; exact hz)
    have I1 : Inv X pins σ H { s with heap := h' } := I.kept (t' := s.toks) kp
    obtain ⟨u, tu, hn, I2⟩ := laidT (tk := s.toks) I1 r' hz
    exact ⟨.ref h'.objs.size, _, I2, rfl, q _ u hn tu⟩
  · obtain ⟨its, r', pl, hz⟩ := I.tuple hq
    exact call_tuple_same pl ⟨.ref p, H, I, rfl, q⟩
/-- a tuple's methods are found -/
def tyTup (K : PySem.W.Frag) (x : V) (H : Hp) : Prop := ∃ p xs, x = .ref p ∧ RTup K H p xs
theorem ty_tup : TyOk X "tuple" (tyTup X.K) := by
  intro pins σ H s x v I r ty
  obtain ⟨p, xs, rfl, h⟩ := ty
  cases r
  rcases h with ⟨u, h, o, e, hd, hc⟩ | ⟨o, its, n, h1, h2, hd, h3⟩
  · subst e
    obtain ⟨e, _⟩ := I.hok p _ h
    refine ⟨⟨o, e, hc⟩, fun b e' => ?_⟩
    cases e'
    exact ⟨o, e, hd⟩
  · have e := I.kIn p o h1
    refine ⟨⟨o, e, h2⟩, fun b e' => ?_⟩
    cases e'
    exact ⟨o, e, hd⟩
end
end FM

/-! how values stand in the abstract heap -/
namespace FM
open PySem PySem.Spec PyProof.Rows L2

/-- the live addresses by frames; those that are hidden (a list that is being made) -/
structure Mu where
  fr : List (List Addr)
  hid : Addr → Prop
def Off (μ : Mu) (a : Addr) : Prop := (∀ f ∈ μ.fr, a ∉ f) ∧ ¬ μ.hid a

mutual
def Rep (K : PySem.W.Frag) (H : Hp) (μ : Mu) : Val → V → Prop
  | .non, x => x = .non
  | .bl b, x => x = .bl b
  | .int i, x => x = .int i
  | .str s, x => x = .str s
  | .tup xs, x => ∃ a vs, x = .ref a ∧ RTup K H a vs ∧ vs.length ≤ sizeLine ∧ RepAll K H μ xs vs
  | .lst xs, x => ∃ a vs, x = .ref a ∧ H a = some (.lst vs) ∧ Off μ a ∧ vs.length ≤ sizeLine ∧ RepAll K H μ xs vs
  | .scr xs, x => ∃ a vs, x = .ref a ∧ ((Rd H a (.lst vs) ∧ Off μ a) ∨ ∀ H', SqL K H' a vs) ∧ vs.length ≤ sizeLine ∧ RepAll K H μ xs vs
  | .dct _ _, _ => False
  | .ref f n, x => ∃ a, x = .ref a ∧ lk μ.fr f n = some a
def RepAll (K : PySem.W.Frag) (H : Hp) (μ : Mu) : List Val → List V → Prop
  | [], vs => vs = []
  | x :: xs, vs => ∃ w ws, vs = w :: ws ∧ Rep K H μ x w ∧ RepAll K H μ xs ws
end
def CellRep (K : PySem.W.Frag) (H : Hp) (μ : Mu) (a : Addr) : Cell → Prop
  | .lst xs => ∃ vs, H a = some (.lst vs) ∧ vs.length ≤ sizeLine ∧ RepAll K H μ xs vs
  | .dct _ _ => False
def belowC (k : Nat) : Cell → Bool
  | .lst xs => belowAll k xs
  | .dct ks vs => belowAll k ks && belowAll k vs

structure Mem (K : PySem.W.Frag) (H : Hp) (μ : Mu) (s : S) : Prop where
  shp : μ.fr.map List.length = s.map List.length
  nd : μ.fr.flatten.Nodup
  sep : ∀ f ∈ μ.fr, ∀ a ∈ f, ¬ μ.hid a
  cel : ∀ f n a c, lk μ.fr f n = some a → lk s f n = some c → CellRep K H μ a c
  bel : ∀ f n c, lk s f n = some c → belowC (f + 1) c = true
  hd : ∀ a, μ.hid a → ∃ vs, H a = some (.lst vs)

def exts (b : List Addr) : List (List Addr) → List (List Addr)
  | [] => []
  | fr :: r => (fr ++ b) :: r
/-- a hidden address comes to live -/
def Mu.ext (a : Addr) (μ : Mu) : Mu := { μ with fr := exts [a] μ.fr }
def Mu.hide (a : Addr) (μ : Mu) : Mu := { μ with hid := fun x => x = a ∨ μ.hid x }
def Mu.show (a : Addr) (μ : Mu) : Mu := { μ with hid := fun x => x ≠ a ∧ μ.hid x }
structure Grow (μ : Mu) (H : Hp) (μ' : Mu) (H' : Hp) : Prop where
  ext : ∃ b, μ'.fr = exts b μ.fr ∧ ∀ x ∈ b, H x = none
  hid : ∀ x, μ'.hid x → H x = none ∨ μ.hid x
  hs : ∀ x, μ.hid x → μ'.hid x
  kp : ∀ a o, Off μ a → H a = some o → H' a = some o
  lv : ∀ f ∈ μ.fr, ∀ a ∈ f, ∃ o, H' a = some o
  hk : ∀ a, μ.hid a → H' a = H a

section
variable {K : PySem.W.Frag} {H H1 H2 H' : Hp} {μ μ1 μ2 μ' : Mu} {s s' : S}

theorem lk_lt {α : Type} : ∀ {l : List (List α)} {f n : Nat} {x : α}, lk l f n = some x → f < l.length
  | [], _, _, _, h => by simp [lk] at h
  | fr :: r, f, n, x, h => by
    unfold lk at h
    split at h
    · rename_i e; subst e; simp
    · have := lk_lt h; simp; omega
theorem lk_mem {α : Type} : ∀ {l : List (List α)} {f n : Nat} {x : α}, lk l f n = some x → ∃ fr ∈ l, x ∈ fr
  | [], _, _, _, h => by simp [lk] at h
  | fr :: r, f, n, x, h => by
    unfold lk at h
    split at h
    · exact ⟨fr, by simp, List.mem_of_getElem? h⟩
    · obtain ⟨g, hg, hx⟩ := lk_mem h; exact ⟨g, by simp [hg], hx⟩
theorem lk_of_mem {α : Type} : ∀ {l : List (List α)} {fr : List α} {x : α}, fr ∈ l → x ∈ fr → ∃ f n, lk l f n = some x
  | [], _, _, h, _ => by simp at h
  | g :: r, fr, x, h, hx => by
    rcases List.mem_cons.mp h with rfl | h
    · obtain ⟨n, hn, e⟩ := List.getElem_of_mem hx
      exact ⟨r.length, n, by unfold lk; rw [if_pos rfl, List.getElem?_eq_getElem hn, e]⟩
    · obtain ⟨f, n, e⟩ := lk_of_mem h hx
      refine ⟨f, n, ?_⟩
      unfold lk
      rw [if_neg (Nat.ne_of_lt (lk_lt e)), e]
theorem lk_other {α β : Type} : ∀ {l : List (List α)} {m : List (List β)}, l.map List.length = m.map List.length → ∀ {f n : Nat} {x : α}, lk l f n = some x → ∃ y, lk m f n = some y
  | [], m, _, f, n, x, h => by simp [lk] at h
  | fr :: r, [], e, _, _, _, _ => by simp at e
  | fr :: r, g :: q, e, f, n, x, h => by
    simp only [List.map_cons, List.cons.injEq] at e
    have el : r.length = q.length := by have := congrArg List.length e.2; simpa using this
    unfold lk at h ⊢
    split at h
    · rename_i ef
      rw [if_pos (by rw [ef, el])]
      obtain ⟨hn, _⟩ := List.getElem?_eq_some_iff.mp h
      exact ⟨g[n]'(by omega), List.getElem?_eq_getElem (by omega)⟩
    · rename_i ef
      rw [if_neg (by rw [← el]; exact ef)]
      exact lk_other e.2 h
theorem Mem.len (m : Mem K H μ s) : μ.fr.length = s.length := by have := congrArg List.length m.shp; simpa using this
/-- what is live is tracked, and a list -/
theorem Mem.live (m : Mem K H μ s) {f : List Addr} {a : Addr} (hf : f ∈ μ.fr) (ha : a ∈ f) : ∃ vs, H a = some (.lst vs) := by
  obtain ⟨k, n, e⟩ := lk_of_mem hf ha
  obtain ⟨c, ec⟩ := lk_other m.shp e
  have := m.cel k n a c e ec
  cases c with
  | lst xs => obtain ⟨vs, h, _⟩ := this; exact ⟨vs, h⟩
  | dct _ _ => exact this.elim
theorem off_ne {a b : Addr} (h : Off μ b) (h' : ¬ Off μ a) : b ≠ a := fun e => h' (by rw [← e]; exact h)
theorem not_off {a : Addr} (h : ¬ Off μ a) : (∃ f ∈ μ.fr, a ∈ f) ∨ μ.hid a := by
  refine Classical.byContradiction fun q => h ⟨fun f hf ha => q (.inl ⟨f, hf, ha⟩), fun ha => q (.inr ha)⟩
theorem Mem.on (m : Mem K H μ s) {a : Addr} (h : ¬ Off μ a) : ∃ vs, H a = some (.lst vs) := by
  rcases not_off h with ⟨f, hf, ha⟩ | ha
  · exact m.live hf ha
  · exact m.hd a ha
theorem Mem.off (m : Mem K H μ s) {a : Addr} (h : H a = none) : Off μ a := Classical.byContradiction fun q => by
  obtain ⟨vs, e⟩ := m.on q; rw [h] at e; cases e
theorem Mem.offT (m : Mem K H μ s) {a : Addr} {u : HO} (h : H a = some u) (hu : ∀ vs, u ≠ .lst vs) : Off μ a := Classical.byContradiction fun q => by
  obtain ⟨vs, e⟩ := m.on q; rw [h] at e; exact hu vs (Option.some.inj e)

theorem exts_nil {l : List (List Addr)} : exts [] l = l := by cases l <;> simp [exts]
theorem exts_exts {l : List (List Addr)} (b c : List Addr) : exts c (exts b l) = exts (b ++ c) l := by cases l <;> simp [exts]
theorem exts_mem {l : List (List Addr)} {b : List Addr} {a : Addr} : (∃ f ∈ exts b l, a ∈ f) → (∃ f ∈ l, a ∈ f) ∨ a ∈ b := by
  cases l with
  | nil => rintro ⟨f, hf, _⟩; simp [exts] at hf
  | cons fr r =>
    rintro ⟨f, hf, ha⟩
    simp only [exts, List.mem_cons] at hf
    rcases hf with rfl | hf
    · rcases List.mem_append.mp ha with h | h
      · exact .inl ⟨fr, by simp, h⟩
      · exact .inr h
    · exact .inl ⟨f, by simp [hf], ha⟩
theorem exts_sub {l : List (List Addr)} {b : List Addr} {a : Addr} : (∃ f ∈ l, a ∈ f) → ∃ f ∈ exts b l, a ∈ f := by
  cases l with
  | nil => rintro ⟨f, hf, _⟩; simp at hf
  | cons fr r =>
    rintro ⟨f, hf, ha⟩
    rcases List.mem_cons.mp hf with rfl | hf
    · exact ⟨f ++ b, by simp [exts], List.mem_append_left _ ha⟩
    · exact ⟨f, by simp [exts, hf], ha⟩
theorem lk_exts {l : List (List Addr)} {b : List Addr} {f n : Nat} {a : Addr} (h : lk l f n = some a) : lk (exts b l) f n = some a := by
  cases l with
  | nil => simp [lk] at h
  | cons fr r =>
    simp only [exts]
    unfold lk at h ⊢
    split at h
    · rename_i e
      rw [if_pos e]
      obtain ⟨hn, e2⟩ := List.getElem?_eq_some_iff.mp h
      rw [List.getElem?_append_left hn, h]
    · rename_i e
      rw [if_neg e, h]
theorem exts_length {l : List (List Addr)} {b : List Addr} : (exts b l).length = l.length := by cases l <;> simp [exts]
theorem Grow.refl (m : Mem K H μ s) : Grow μ H μ H := ⟨⟨[], exts_nil.symm, by simp⟩, fun _ h => .inr h, fun _ h => h, fun _ _ _ h => h, fun f hf a ha => let ⟨vs, e⟩ := m.live hf ha; ⟨_, e⟩, fun _ _ => rfl⟩
theorem Grow.len (g : Grow μ H μ' H') : μ'.fr.length = μ.fr.length := by obtain ⟨b, e, _⟩ := g.ext; rw [e, exts_length]
theorem Grow.none (g : Grow μ H μ' H') {a : Addr} (h : H' a = Option.none) : H a = Option.none := by
  cases e : H a with
  | none => rfl
  | some o =>
    by_cases ho : Off μ a
    · have := g.kp a o ho e; rw [h] at this; cases this
    · rcases not_off ho with ⟨f, hf, ha⟩ | ha
      · obtain ⟨o', e'⟩ := g.lv f hf a ha
        rw [h] at e'; cases e'
      · have := g.hk a ha; rw [h, e] at this; cases this
theorem Grow.off (g : Grow μ H μ' H') {a : Addr} {o : HO} (ho : Off μ a) (e : H a = some o) : Off μ' a := by
  obtain ⟨b, e1, hb⟩ := g.ext
  refine ⟨fun f hf ha => ?_, fun ha => ?_⟩
  · rw [e1] at hf
    rcases exts_mem ⟨f, hf, ha⟩ with ⟨f', hf', ha'⟩ | h
    · exact ho.1 f' hf' ha'
    · have q := hb a h
      rw [e] at q; cases q
  · rcases g.hid a ha with q | q
    · rw [e] at q; cases q
    · exact ho.2 q
theorem Grow.trans (g : Grow μ H μ1 H1) (g' : Grow μ1 H1 μ2 H2) : Grow μ H μ2 H2 := by
  obtain ⟨b, e1, hb⟩ := id g.ext
  obtain ⟨c, e2, hc⟩ := id g'.ext
  refine ⟨⟨b ++ c, by rw [e2, e1, exts_exts], fun x hx => ?_⟩, fun x hx => ?_, fun x hx => g'.hs x (g.hs x hx), fun a o ho e => g'.kp a o (g.off ho e) (g.kp a o ho e), fun f hf a ha => ?_, fun a ha => (g'.hk a (g.hs a ha)).trans (g.hk a ha)⟩
  · rcases List.mem_append.mp hx with h | h
    · exact hb x h
    · exact g.none (hc x h)
  · rcases g'.hid x hx with q | q
    · exact .inl (g.none q)
    · exact g.hid x q
  · obtain ⟨f', hf', ha'⟩ := exts_sub (b := b) ⟨f, hf, ha⟩
    exact g'.lv f' (by rw [e1]; exact hf') a ha'

mutual
theorem Rep.mono (g : Grow μ H μ' H') (m : Mem K H μ s) : ∀ (v : Val) (x : V), Rep K H μ v x → Rep K H' μ' v x
  | .non, _, h => h
  | .bl _, _, h => h
  | .int _, _, h => h
  | .str _, _, h => h
  | .tup xs, x, h => by
    unfold Rep at h ⊢
    obtain ⟨a, vs, e, hq, hl, hr⟩ := h
    refine ⟨a, vs, e, ?_, hl, RepAll.mono g m xs vs hr⟩
    rcases hq with ⟨u, hq, tu⟩ | hq
    · exact .inl ⟨u, g.kp a _ (m.offT hq fun _ => tu.ne) hq, tu⟩
    · exact .inr hq
  | .lst xs, x, h => by
    unfold Rep at h ⊢
    obtain ⟨a, vs, e, hq, ho, hl, hr⟩ := h
    exact ⟨a, vs, e, g.kp a _ ho hq, g.off ho hq, hl, RepAll.mono g m xs vs hr⟩
  | .scr xs, x, h => by
    unfold Rep at h ⊢
    obtain ⟨a, vs, e, hq, hl, hr⟩ := h
    refine ⟨a, vs, e, ?_, hl, RepAll.mono g m xs vs hr⟩
    rcases hq with ⟨hq | ⟨o, hq⟩, ho⟩ | hq
    · exact .inl ⟨.inl (g.kp a _ ho hq), g.off ho hq⟩
    · exact .inl ⟨.inr ⟨o, g.kp a _ ho hq⟩, g.off ho hq⟩
    · exact .inr hq
  | .dct _ _, _, h => by unfold Rep at h; exact h.elim
  | .ref f n, x, h => by
    unfold Rep at h ⊢
    obtain ⟨a, e, hq⟩ := h
    obtain ⟨b, e2, _⟩ := g.ext
    exact ⟨a, e, by rw [e2]; exact lk_exts hq⟩
theorem RepAll.mono (g : Grow μ H μ' H') (m : Mem K H μ s) : ∀ (v : List Val) (x : List V), RepAll K H μ v x → RepAll K H' μ' v x
  | [], _, h => by unfold RepAll at h ⊢; exact h
  | v :: vs, x, h => by
    unfold RepAll at h ⊢
    obtain ⟨w, ws, e, h1, h2⟩ := h
    exact ⟨w, ws, e, Rep.mono g m v w h1, RepAll.mono g m vs ws h2⟩
end
theorem RepAll.length : ∀ {vs : List Val} {xs : List V}, RepAll K H μ vs xs → xs.length = vs.length
  | [], _, h => by unfold RepAll at h; rw [h]; rfl
  | v :: vs, x, h => by
    unfold RepAll at h
    obtain ⟨w, ws, e, _, h2⟩ := h
    rw [e]; simp [RepAll.length h2]
theorem RepAll.get : ∀ {vs : List Val} {xs : List V} {i : Nat} {v : Val}, RepAll K H μ vs xs → vs[i]? = some v → ∃ x, xs[i]? = some x ∧ Rep K H μ v x
  | [], _, _, _, _, h2 => by simp at h2
  | v :: vs, x, 0, _, h, h2 => by
    unfold RepAll at h
    obtain ⟨w, ws, e, h1, _⟩ := h
    simp at h2; subst h2
    exact ⟨w, by rw [e]; rfl, h1⟩
  | v :: vs, x, i + 1, u, h, h2 => by
    unfold RepAll at h
    obtain ⟨w, ws, e, _, h3⟩ := h
    obtain ⟨y, hy, hr⟩ := RepAll.get (i := i) h3 (by simpa using h2)
    exact ⟨y, by rw [e]; simpa using hy, hr⟩
theorem RepAll.append : ∀ {vs ws : List Val} {xs ys : List V}, RepAll K H μ vs xs → RepAll K H μ ws ys → RepAll K H μ (vs ++ ws) (xs ++ ys)
  | [], ws, xs, ys, h, h2 => by unfold RepAll at h; rw [h]; exact h2
  | v :: vs, ws, xs, ys, h, h2 => by
    unfold RepAll at h
    obtain ⟨w, us, e, h1, h3⟩ := h
    rw [e]
    show RepAll K H μ (v :: (vs ++ ws)) (w :: (us ++ ys))
    unfold RepAll
    exact ⟨w, us ++ ys, rfl, h1, h3.append h2⟩
theorem RepAll.one {v : Val} {x : V} (h : Rep K H μ v x) : RepAll K H μ [v] [x] := by
  unfold RepAll RepAll
  exact ⟨x, [], rfl, h, rfl⟩
theorem RepAll.nil : RepAll K H μ [] [] := by unfold RepAll; rfl
theorem RepAll.cons {v : Val} {x : V} {vs : List Val} {xs : List V} (h : Rep K H μ v x) (h2 : RepAll K H μ vs xs) : RepAll K H μ (v :: vs) (x :: xs) := by
  unfold RepAll
  exact ⟨x, xs, rfl, h, h2⟩
theorem RepAll.take : ∀ {vs : List Val} {xs : List V} (n : Nat), RepAll K H μ vs xs → RepAll K H μ (vs.take n) (xs.take n)
  | _, _, 0, _ => by simp [RepAll]
  | [], xs, n + 1, h => by unfold RepAll at h; rw [h]; simp [RepAll]
  | v :: vs, xs, n + 1, h => by
    unfold RepAll at h
    obtain ⟨w, us, e, h1, h3⟩ := h
    rw [e]
    exact RepAll.cons h1 (h3.take n)
theorem RepAll.drop : ∀ {vs : List Val} {xs : List V} (n : Nat), RepAll K H μ vs xs → RepAll K H μ (vs.drop n) (xs.drop n)
  | _, _, 0, h => h
  | [], xs, n + 1, h => by unfold RepAll at h; rw [h]; simp [RepAll]
  | v :: vs, xs, n + 1, h => by
    unfold RepAll at h
    obtain ⟨w, us, e, h1, h3⟩ := h
    rw [e]
    exact h3.drop n
theorem RepAll.set : ∀ {vs : List Val} {xs : List V} (n : Nat) {v : Val} {x : V}, RepAll K H μ vs xs → Rep K H μ v x → RepAll K H μ (vs.set n v) (xs.set n x)
  | [], xs, n, v, x, h, _ => by unfold RepAll at h; rw [h]; simp [RepAll]
  | u :: vs, xs, 0, v, x, h, hv => by
    unfold RepAll at h
    obtain ⟨w, us, e, h1, h3⟩ := h
    rw [e]
    exact RepAll.cons hv h3
  | u :: vs, xs, n + 1, v, x, h, hv => by
    unfold RepAll at h
    obtain ⟨w, us, e, h1, h3⟩ := h
    rw [e]
    exact RepAll.cons h1 (h3.set n hv)

/-- a new object that nobody changes -/
theorem Mem.new (m : Mem K H μ s) {p : Addr} {o : HO} (hp : H p = none) : Grow μ H μ (upd H p o) := by
  have ne : ∀ a, ¬ Off μ a → a ≠ p := fun a h => by
    obtain ⟨vs, e⟩ := m.on h
    exact ne_of_none e hp
  refine ⟨⟨[], exts_nil.symm, by simp⟩, fun _ h => .inr h, fun _ h => h, fun a u _ e => ?_, fun f hf a ha => ?_, fun a ha => ?_⟩
  · rw [upd_ne (ne_of_none e hp)]; exact e
  · obtain ⟨vs, e⟩ := m.live hf ha
    exact ⟨.lst vs, by rw [upd_ne (ne_of_none e hp)]; exact e⟩
  · exact upd_ne (ne a fun h => h.2 ha)
/-- .. that is hidden -/
theorem Mem.newHid (m : Mem K H μ s) {p : Addr} {o : HO} (hp : H p = none) : Grow μ H (μ.hide p) (upd H p o) := by
  obtain ⟨h1, h2, h0, h3, h4, h5⟩ := m.new (o := o) hp
  exact ⟨h1, fun x hx => hx.elim (fun e => .inl (by rw [e]; exact hp)) .inr, fun x hx => .inr hx, h3, h4, h5⟩
/-- the memory over a heap that has grown, where the live cells stand as they were -/
theorem Mem.grow (m : Mem K H μ s) (g : Grow μ H μ H') (h : ∀ f ∈ μ.fr, ∀ a ∈ f, H' a = H a) : Mem K H' μ s := by
  refine ⟨m.shp, m.nd, m.sep, fun f n a c e1 e2 => ?_, m.bel, fun a ha => ?_⟩
  · have q := m.cel f n a c e1 e2
    obtain ⟨fr, hfr, ha⟩ := lk_mem e1
    cases c with
    | lst xs =>
      obtain ⟨vs, e, hl, hr⟩ := q
      exact ⟨vs, by rw [h fr hfr a ha]; exact e, hl, RepAll.mono g m _ _ hr⟩
    | dct _ _ => exact q
  · rw [g.hk a ha]; exact m.hd a ha
theorem Mem.upd_new (m : Mem K H μ s) {p : Addr} {o : HO} (hp : H p = none) : Mem K (upd H p o) μ s :=
  m.grow (m.new hp) fun f hf a ha => by
    obtain ⟨vs, e⟩ := m.live hf ha
    rw [upd_ne (ne_of_none e hp)]

/-! ### what stands where a live or hidden list is changed -/
mutual
theorem Rep.upd {a : Addr} {ws : List V} (ha : ¬ Off μ a) (m : ∃ vs, H a = some (.lst vs)) : ∀ (v : Val) (x : V), Rep K H μ v x → Rep K (upd H a (.lst ws)) μ v x
  | .non, _, h => h
  | .bl _, _, h => h
  | .int _, _, h => h
  | .str _, _, h => h
  | .tup xs, x, h => by
    unfold Rep at h ⊢
    obtain ⟨b, vs, e, hq, hl, hr⟩ := h
    refine ⟨b, vs, e, ?_, hl, RepAll.upd ha m xs vs hr⟩
    obtain ⟨us, eu⟩ := m
    rcases hq with ⟨u, hq, tu⟩ | hq
    · exact .inl ⟨u, by rw [upd_ne (ne_of hq eu tu.ne)]; exact hq, tu⟩
    · exact .inr hq
  | .lst xs, x, h => by
    unfold Rep at h ⊢
    obtain ⟨b, vs, e, hq, ho, hl, hr⟩ := h
    exact ⟨b, vs, e, by rw [upd_ne (off_ne ho ha)]; exact hq, ho, hl, RepAll.upd ha m xs vs hr⟩
  | .scr xs, x, h => by
    unfold Rep at h ⊢
    obtain ⟨b, vs, e, hq, hl, hr⟩ := h
    refine ⟨b, vs, e, ?_, hl, RepAll.upd ha m xs vs hr⟩
    rcases hq with ⟨hq | ⟨o, hq⟩, ho⟩ | hq
    · exact .inl ⟨.inl (by rw [upd_ne (off_ne ho ha)]; exact hq), ho⟩
    · exact .inl ⟨.inr ⟨o, by rw [upd_ne (off_ne ho ha)]; exact hq⟩, ho⟩
    · exact .inr hq
  | .dct _ _, _, h => by unfold Rep at h; exact h.elim
  | .ref f n, x, h => by
    unfold Rep at h ⊢
    exact h
theorem RepAll.upd {a : Addr} {ws : List V} (ha : ¬ Off μ a) (m : ∃ vs, H a = some (.lst vs)) : ∀ (v : List Val) (x : List V), RepAll K H μ v x → RepAll K (upd H a (.lst ws)) μ v x
  | [], _, h => by unfold RepAll at h ⊢; exact h
  | v :: vs, x, h => by
    unfold RepAll at h ⊢
    obtain ⟨w, us, e, h1, h2⟩ := h
    exact ⟨w, us, e, Rep.upd ha m v w h1, RepAll.upd ha m vs us h2⟩
end
mutual
theorem Rep.sub (fr : ∀ f n b, lk μ.fr f n = some b → lk μ'.fr f n = some b) (off : ∀ b, Off μ b → Off μ' b) : ∀ (v : Val) (x : V), Rep K H μ v x → Rep K H μ' v x
  | .non, _, h => h
  | .bl _, _, h => h
  | .int _, _, h => h
  | .str _, _, h => h
  | .tup xs, x, h => by
    unfold Rep at h ⊢
    obtain ⟨b, vs, e, hq, hl, hr⟩ := h
    exact ⟨b, vs, e, hq, hl, RepAll.sub fr off xs vs hr⟩
  | .lst xs, x, h => by
    unfold Rep at h ⊢
    obtain ⟨b, vs, e, hq, ho, hl, hr⟩ := h
    exact ⟨b, vs, e, hq, off b ho, hl, RepAll.sub fr off xs vs hr⟩
  | .scr xs, x, h => by
    unfold Rep at h ⊢
    obtain ⟨b, vs, e, hq, hl, hr⟩ := h
    exact ⟨b, vs, e, hq.imp (fun q => ⟨q.1, off b q.2⟩) id, hl, RepAll.sub fr off xs vs hr⟩
  | .dct _ _, _, h => by unfold Rep at h; exact h.elim
  | .ref f n, x, h => by
    unfold Rep at h ⊢
    obtain ⟨a, e, q⟩ := h
    exact ⟨a, e, fr f n a q⟩
theorem RepAll.sub (fr : ∀ f n b, lk μ.fr f n = some b → lk μ'.fr f n = some b) (off : ∀ b, Off μ b → Off μ' b) : ∀ (v : List Val) (x : List V), RepAll K H μ v x → RepAll K H μ' v x
  | [], _, h => by unfold RepAll at h ⊢; exact h
  | v :: vs, x, h => by
    unfold RepAll at h ⊢
    obtain ⟨w, us, e, h1, h2⟩ := h
    exact ⟨w, us, e, Rep.sub fr off v w h1, RepAll.sub fr off vs us h2⟩
end
theorem off_unhide {a b : Addr} (h : Off (μ.hide a) b) : Off μ b := ⟨h.1, fun q => h.2 (.inr q)⟩
theorem Rep.unhide {a : Addr} {v : Val} {x : V} (h : Rep K H (μ.hide a) v x) : Rep K H μ v x := Rep.sub (μ := μ.hide a) (μ' := μ) (fun _ _ _ h => h) (fun _ h => off_unhide h) v x h
theorem RepAll.unhide {a : Addr} {v : List Val} {x : List V} (h : RepAll K H (μ.hide a) v x) : RepAll K H μ v x := RepAll.sub (μ := μ.hide a) (μ' := μ) (fun _ _ _ h => h) (fun _ h => off_unhide h) v x h
theorem off_live {a b : Addr} (h : Off (μ.hide a) b) : Off (μ.ext a) b := by
  refine ⟨fun f hf hm => ?_, fun q => h.2 (.inr q)⟩
  rcases exts_mem ⟨f, hf, hm⟩ with ⟨g, hg, hm⟩ | hm
  · exact h.1 g hg hm
  · exact h.2 (.inl (by simpa using hm))
theorem show_hide {a : Addr} (h : μ.hid a) : (μ.show a).hide a = μ := by
  unfold Mu.show Mu.hide
  cases μ with
  | mk fr hid =>
    congr
    funext x
    simp only [eq_iff_iff]
    refine ⟨fun q => q.elim (fun e => e ▸ h) fun q => q.2, fun q => ?_⟩
    by_cases e : x = a
    · exact .inl e
    · exact .inr ⟨e, q⟩
theorem CellRep.sub {a : Addr} {c : Cell} (fr : ∀ f n b, lk μ.fr f n = some b → lk μ'.fr f n = some b) (off : ∀ b, Off μ b → Off μ' b) (h : CellRep K H μ a c) : CellRep K H μ' a c := by
  cases c with
  | lst xs => obtain ⟨vs, e, hl, hr⟩ := h; exact ⟨vs, e, hl, RepAll.sub fr off _ _ hr⟩
  | dct _ _ => exact h.elim
theorem Mem.unhide {a : Addr} (m : Mem K H (μ.hide a) s) : Mem K H μ s :=
  ⟨m.shp, m.nd, fun f hf b hb q => m.sep f hf b hb (.inr q), fun f n b c e1 e2 => CellRep.sub (μ := μ.hide a) (μ' := μ) (fun _ _ _ h => h) (fun _ h => off_unhide h) (m.cel f n b c e1 e2), m.bel, fun b hb => m.hd b (.inr hb)⟩
/-- a hidden list is changed by whoever makes it -/
theorem Mem.updHid {a : Addr} {ws : List V} (m : Mem K H μ s) (ha : μ.hid a) : Mem K (upd H a (.lst ws)) μ s := by
  have no : ¬ Off μ a := fun h => h.2 ha
  have hv := m.hd a ha
  have ne : ∀ f ∈ μ.fr, ∀ b ∈ f, b ≠ a := fun f hf b hb e => m.sep f hf b hb (by rw [e]; exact ha)
  refine ⟨m.shp, m.nd, m.sep, fun f n b c e1 e2 => ?_, m.bel, fun b hb => ?_⟩
  · obtain ⟨fr, hfr, hb⟩ := lk_mem e1
    have q := m.cel f n b c e1 e2
    cases c with
    | lst xs =>
      obtain ⟨vs, e, hl, hr⟩ := q
      exact ⟨vs, by rw [upd_ne (ne fr hfr b hb)]; exact e, hl, RepAll.upd no hv _ _ hr⟩
    | dct _ _ => exact q.elim
  · by_cases e : b = a
    · subst e; exact ⟨ws, upd_same⟩
    · rw [upd_ne e]; exact m.hd b hb
/-- a hidden list comes to live -/
theorem Mem.comes {a : Addr} {xs : List Val} {vs : List V} {fr : List Cell} {r : S} (m : Mem K H (μ.hide a) (fr :: r)) (h : H a = some (.lst vs)) (hl : vs.length ≤ sizeLine) (hr : RepAll K H (μ.hide a) xs vs) (hb : belowAll (r.length + 1) xs = true) (hh : ¬ μ.hid a) :
    Mem K H (μ.ext a) ((fr ++ [.lst xs]) :: r) ∧ Rep K H (μ.ext a) (.ref r.length fr.length) (.ref a) := by
  obtain ⟨sh, nd, se, ce, be, hd⟩ := m
  have sub1 : ∀ f n b, lk (μ.hide a).fr f n = some b → lk (μ.ext a).fr f n = some b := fun f n b e => lk_exts e
  have sub2 : ∀ b, Off (μ.hide a) b → Off (μ.ext a) b := fun _ => off_live
  obtain ⟨mf, mh⟩ := μ
  cases mf with
  | nil => simp [Mu.hide] at sh
  | cons g q =>
    simp only [Mu.hide, List.map_cons, List.cons.injEq] at sh
    have el : q.length = r.length := by have := congrArg List.length sh.2; simpa using this
    refine ⟨⟨?_, ?_, ?_, ?_, ?_, ?_⟩, ?_⟩
    · simp only [Mu.ext, exts, List.map_cons, List.length_append, List.length_cons, List.length_nil, sh.1, sh.2]
    · have na : a ∉ (g :: q).flatten := fun hm => by
        obtain ⟨f, hf, ha⟩ := List.mem_flatten.mp hm
        exact se f hf a ha (.inl rfl)
      simp only [Mu.hide, List.flatten_cons] at nd na
      simp only [Mu.ext, exts, List.flatten_cons]
      have e2 : (g ++ [a] ++ q.flatten) = g ++ (a :: q.flatten) := by simp
      rw [e2]
      exact List.perm_middle.nodup_iff.mpr (List.nodup_cons.mpr ⟨na, nd⟩)
    · intro f hf b hb hq
      simp only [Mu.ext] at hf
      rcases exts_mem ⟨f, hf, hb⟩ with ⟨f', hf', hb'⟩ | hb'
      · exact se f' hf' b hb' (.inr hq)
      · have eb : b = a := by simpa using hb'
        rw [eb] at hq
        exact hh hq
    · intro f n b c e1 e2
      simp only [Mu.ext, exts] at e1
      unfold lk at e1 e2
      by_cases ef : f = q.length
      · rw [if_pos ef] at e1
        rw [if_pos (ef.trans el)] at e2
        by_cases hn : n < fr.length
        · rw [List.getElem?_append_left hn] at e2
          rw [List.getElem?_append_left (by omega)] at e1
          refine (ce f n b c ?_ ?_).sub sub1 sub2
          · show lk (g :: q) f n = some b
            unfold lk; rw [if_pos ef, e1]
          · unfold lk; rw [if_pos (ef.trans el), e2]
        · rw [List.getElem?_append_right (by omega)] at e2
          have hn0 : n - fr.length = 0 := by
            have := (List.getElem?_eq_some_iff.mp e2).1
            simp at this; omega
          have hnn : n = fr.length := by omega
          rw [hn0] at e2
          simp at e2
          subst e2
          rw [List.getElem?_append_right (by omega), show n - g.length = 0 by omega] at e1
          simp at e1
          subst e1
          exact ⟨vs, h, hl, RepAll.sub sub1 sub2 _ _ hr⟩
      · rw [if_neg ef] at e1
        rw [if_neg (by rw [← el]; exact ef)] at e2
        refine (ce f n b c ?_ ?_).sub sub1 sub2
        · show lk (g :: q) f n = some b
          unfold lk; rw [if_neg ef, e1]
        · unfold lk; rw [if_neg (by rw [← el]; exact ef), e2]
    · intro f n c e2
      unfold lk at e2
      by_cases ef : f = r.length
      · rw [if_pos ef] at e2
        by_cases hn : n < fr.length
        · rw [List.getElem?_append_left hn] at e2
          exact be f n c (by unfold lk; rw [if_pos ef, e2])
        · rw [List.getElem?_append_right (by omega)] at e2
          have hn0 : n - fr.length = 0 := by
            have := (List.getElem?_eq_some_iff.mp e2).1
            simp at this; omega
          rw [hn0] at e2
          simp at e2
          subst e2
          rw [ef]; exact hb
      · rw [if_neg ef] at e2
        exact be f n c (by unfold lk; rw [if_neg ef, e2])
    · exact fun b hb => hd b (.inr hb)
    · unfold Rep
      refine ⟨a, rfl, ?_⟩
      simp only [Mu.ext, exts]
      unfold lk
      rw [if_pos el.symm, List.getElem?_append_right (by omega), show fr.length - g.length = 0 by omega]
      rfl
theorem Mem.offHid {a : Addr} (m : Mem K H (μ.hide a) s) (hh : ¬ μ.hid a) : Off μ a := ⟨fun f hf ha => m.sep f hf a ha (.inl rfl), hh⟩
theorem Grow.comes {a : Addr} (g : Grow μ H (μ'.hide a) H') (h : H a = Option.none) (ho : Off μ a) : Grow μ H (μ'.ext a) H' := by
  obtain ⟨⟨b, e, hb⟩, hh, h0, h3, h4, h5⟩ := g
  refine ⟨⟨b ++ [a], ?_, fun x hx => ?_⟩, fun x hx => hh x (.inr hx), fun x hx => ?_, h3, h4, h5⟩
  · have e : μ'.fr = exts b μ.fr := e
    show exts [a] μ'.fr = _
    rw [e, exts_exts]
  · rcases List.mem_append.mp hx with q | q
    · exact hb x q
    · simp at q; rw [q]; exact h
  · rcases h0 x hx with q | q
    · exact (ho.2 (q ▸ hx)).elim
    · exact q
theorem Grow.unhide {a : Addr} (g : Grow μ H (μ'.hide a) H') (ho : Off μ a) : Grow μ H μ' H' := by
  obtain ⟨h1, hh, h0, h3, h4, h5⟩ := g
  refine ⟨h1, fun x hx => hh x (.inr hx), fun x hx => ?_, h3, h4, h5⟩
  rcases h0 x hx with q | q
  · exact (ho.2 (q ▸ hx)).elim
  · exact q
/-- behind a growth a hidden list is changed by whoever makes it -/
theorem Grow.updHid {a : Addr} {o : HO} (g : Grow μ H μ' H') (ha : H a = Option.none) (hm : Off μ a) : Grow μ H μ' (upd H' a o) := by
  obtain ⟨h1, hh, h0, h3, h4, h5⟩ := g
  refine ⟨h1, hh, h0, fun b u ho e => ?_, fun f hf b hb => ?_, fun b hb => ?_⟩
  · rw [upd_ne (ne_of_none e ha)]; exact h3 b u ho e
  · rw [upd_ne (fun z => hm.1 f hf (by rw [← z]; exact hb))]; exact h4 f hf b hb
  · rw [upd_ne (fun z => hm.2 (by rw [← z]; exact hb))]; exact h5 b hb
end
end FM

set_option autoImplicit false
/-! the judgements: a piece of syntax and the combinator that is sound for it -/
namespace FM
open PySem PySem.Spec PyProof.Rows L2

def R.wp {α : Type} (r : R α) (Q : α → S → Prop) (E : Exn → S → Prop) : Prop := match r with
  | .ok a s => Q a s
  | .ex e s => E e s
  | .no => False
theorem wp_bind {α β : Type} {r : R α} {f : α → S → R β} {Q : β → S → Prop} {E : Exn → S → Prop} (h : (r.bind f).wp Q E) : r.wp (fun a s => (f a s).wp Q E) E := by
  cases r <;> exact h
theorem wp_mono {α : Type} {r : R α} {Q Q' : α → S → Prop} {E E' : Exn → S → Prop} (h : r.wp Q E) (hq : ∀ a s, Q a s → Q' a s) (he : ∀ e s, E e s → E' e s) : r.wp Q' E' := by
  cases r with
  | ok a s => exact hq a s h
  | ex e s => exact he e s h
  | no => exact h
theorem wp_ofO {α : Type} {o : Option α} {s : S} {Q : α → S → Prop} {E : Exn → S → Prop} (h : (ofO o s).wp Q E) : ∃ a, o = some a ∧ Q a s := by
  cases o with
  | none => exact False.elim h
  | some a => exact ⟨a, rfl, h⟩
theorem wp_nox {α : Type} {r : R α} {Q : α → S → Prop} {E E' : Exn → S → Prop} (h : r.nox.wp Q E) : r.wp Q E' := by
  cases r with
  | ok a s => exact h
  | ex e s => exact False.elim h
  | no => exact h

/-- how an exception lies (none of them yet) -/
def XRep (K : PySem.W.Frag) (H : Hp) (μ : Mu) (e : Exn) (c : Value) (d : Option Addr) : Prop := True
def XP (K : PySem.W.Frag) (μ : Mu) (H : Hp) (EW : XK) (e : Exn) (s' : S) : Prop :=
  ∀ c d H' μ', Grow μ H μ' H' → Mem K H' μ' s' → XRep K H' μ' e c d → EW c d H'
def VP (K : PySem.W.Frag) (μ : Mu) (H : Hp) (Q : VK) (v : Val) (s' : S) : Prop :=
  ∀ x H' μ', Grow μ H μ' H' → Mem K H' μ' s' → Rep K H' μ' v x → Q x H'
def AsP (K : PySem.W.Frag) (μ : Mu) (H : Hp) (Q : List V → Hp → Prop) (v : List Val) (s' : S) : Prop :=
  ∀ x H' μ', Grow μ H μ' H' → Mem K H' μ' s' → RepAll K H' μ' v x → Q x H'
def TsP (K : PySem.W.Frag) (μ : Mu) (H : Hp) (Q : Bool → Hp → Prop) (b : Bool) (s' : S) : Prop :=
  ∀ H' μ', Grow μ H μ' H' → Mem K H' μ' s' → Q b H'
/-- a new list: off the old memory, and its items stand when it has come to live -/
def FsP (K : PySem.W.Frag) (μ : Mu) (H : Hp) (Q : VK) (xs : List Val) (s' : S) : Prop :=
  ∀ (a : Addr) (vs : List V) (H' : Hp) (μ' : Mu), Grow μ H (μ'.hide a) H' → Mem K H' (μ'.hide a) s' → H a = none → ¬ μ'.hid a → H' a = some (.lst vs) → vs.length ≤ sizeLine → RepAll K H' (μ'.hide a) xs vs → Q (.ref a) H'
structure SR (K : PySem.W.Frag) (H : Hp) (μ : Mu) (ρ : FM.Env) (σ : L2.St) : Prop where
  len : ρ.length = σ.length
  get : ∀ (i : Nat) (v : Val), ρ[i]? = some (some v) → ∃ x, σ[i]? = some (some x) ∧ Rep K H μ v x

section
variable {K : PySem.W.Frag} {H H1 H' : Hp} {μ μ1 μ' : Mu} {s s' : S} {ρ : FM.Env} {σ : L2.St} {EW : XK} {Q : VK}
theorem SR.mono (r : SR K H μ ρ σ) (g : Grow μ H μ' H') (m : Mem K H μ s) : SR K H' μ' ρ σ :=
  ⟨r.len, fun i v e => let ⟨x, h1, h2⟩ := r.get i v e; ⟨x, h1, Rep.mono g m v x h2⟩⟩
theorem SR.set (r : SR K H μ ρ σ) {v : Val} {x : V} (i : Nat) (h : Rep K H μ v x) : SR K H μ (ρ.set i (some v)) (σ.set i (some x)) := by
  refine ⟨by simp [r.len], fun j u e => ?_⟩
  by_cases hj : i = j
  · subst hj
    by_cases hi : i < ρ.length
    · rw [List.getElem?_set_self hi] at e
      cases e
      exact ⟨x, List.getElem?_set_self (by rw [← r.len]; exact hi), h⟩
    · rw [List.getElem?_eq_none (by simpa using hi)] at e; cases e
  · rw [List.getElem?_set_ne hj] at e
    obtain ⟨y, h1, h2⟩ := r.get j u e
    exact ⟨y, by rw [List.getElem?_set_ne hj]; exact h1, h2⟩
theorem SR.wipe (r : SR K H μ ρ σ) : ∀ vs : List Nat, SR K H μ (FM.wipe ρ vs) (L2.wipe σ vs)
  | [] => r
  | v :: vs => by
    have q := r.wipe vs
    refine ⟨by simp [FM.wipe, L2.wipe, q.len], fun j u e => ?_⟩
    unfold FM.wipe at e
    unfold L2.wipe
    by_cases hj : v = j
    · subst hj
      by_cases hi : v < (FM.wipe ρ vs).length
      · rw [List.getElem?_set_self hi] at e; cases e
      · rw [List.getElem?_eq_none (by simpa using hi)] at e; cases e
    · rw [List.getElem?_set_ne hj] at e ⊢
      exact q.get j u e
theorem XP.mono (g : Grow μ H μ1 H1) {e : Exn} (h : XP K μ H EW e s') : XP K μ1 H1 EW e s' := fun c d H' μ' g' m x => h c d H' μ' (g.trans g') m x
theorem VP.mono (g : Grow μ H μ1 H1) {v : Val} (h : VP K μ H Q v s') : VP K μ1 H1 Q v s' := fun x H' μ' g' m r => h x H' μ' (g.trans g') m r
theorem AsP.mono (g : Grow μ H μ1 H1) {v : List Val} {Q : List V → Hp → Prop} (h : AsP K μ H Q v s') : AsP K μ1 H1 Q v s' := fun x H' μ' g' m r => h x H' μ' (g.trans g') m r
theorem TsP.mono (g : Grow μ H μ1 H1) {v : Bool} {Q : Bool → Hp → Prop} (h : TsP K μ H Q v s') : TsP K μ1 H1 Q v s' := fun H' μ' g' m => h H' μ' (g.trans g') m
theorem FsP.mono (g : Grow μ H μ1 H1) {v : List Val} (h : FsP K μ H Q v s') : FsP K μ1 H1 Q v s' := fun a vs H' μ' g' m h1 hh h2 h3 h4 => h a vs H' μ' (g.trans g') m (g.none h1) hh h2 h3 h4
end

structure ME {ι : Type} (X : ι → Cx) (K : PySem.W.Frag) (EW : XK) (e : Expr) (m : Ex) : Prop where
  ex : ∃ t, (∀ i, PE (X i) e t) ∧ ∀ σ H ρ μ s Q, SR K H μ ρ σ → Mem K H μ s → (m ρ s).wp (VP K μ H Q) (XP K μ H EW) → t σ H Q
structure MA {ι : Type} (X : ι → Cx) (K : PySem.W.Frag) (EW : XK) (es : List Expr) (m : Ax) : Prop where
  len : ∀ ρ s xs s', m ρ s = .ok xs s' → xs.length = es.length
  ex : ∃ t, (∀ i, PA (X i) es t) ∧ ∀ σ H ρ μ s Q, SR K H μ ρ σ → Mem K H μ s → (m ρ s).wp (AsP K μ H Q) (XP K μ H EW) → t σ H Q
structure MT {ι : Type} (X : ι → Cx) (K : PySem.W.Frag) (EW : XK) (e : Expr) (m : Tx) : Prop where
  ex : ∃ t, (∀ i, PT (X i) e t) ∧ ∀ σ H ρ μ s Q, SR K H μ ρ σ → Mem K H μ s → (m ρ s).wp (TsP K μ H Q) (XP K μ H EW) → t σ H Q
structure MW {ι : Type} (X : ι → Cx) (K : PySem.W.Frag) (EW : XK) (e : Expr) (m : Tx) : Prop where
  ex : ∃ t, (∀ i, PW (X i) e t) ∧ ∀ σ H ρ μ s Q, SR K H μ ρ σ → Mem K H μ s → (m ρ s).wp (TsP K μ H Q) (XP K μ H EW) → t σ H Q
structure MF {ι : Type} (X : ι → Cx) (K : PySem.W.Frag) (EW : XK) (e : Expr) (m : Fx) : Prop where
  ex : ∃ t, (∀ i, PE (X i) e t) ∧ ∀ σ H ρ μ s Q, SR K H μ ρ σ → Mem K H μ s → (m ρ s).wp (FsP K μ H Q) (XP K μ H EW) → t σ H Q
structure MO {ι : Type} (X : ι → Cx) (K : PySem.W.Frag) (EW : XK) (e : Option Expr) (m : Ox) : Prop where
  ex : ∃ t, (∀ i, PO (X i) e t) ∧ ∀ σ H ρ μ s (Q : Option Int → Hp → Prop), SR K H μ ρ σ → Mem K H μ s → (m ρ s).wp (fun o s' => ∀ H' μ', Grow μ H μ' H' → Mem K H' μ' s' → Q o H') (XP K μ H EW) → t σ H Q

section
variable {ι : Type} {X : ι → Cx} {K : PySem.W.Frag} {EW : XK} {e a b c : Expr} {es : List Expr} {ma mb mc : Ex} {mt mu : Tx} {mas : Ax} {pos : Pos}

theorem me_var {j : Nat} {x : Str} (hN : ∀ i, (X i).N[j]? = some x) (hv : ∀ i, Vis (X i).env.scope x) (hd : (x == ("__debug__" : Str)) = false := by decide) (hcd : (x == ("__classdict__" : Str)) = false := by decide) : ME X K EW (.Name x pos) (eVar j) := by
  refine ⟨⟨_, fun i => pe_var (hN i) (hv i) hd hcd, fun σ H ρ μ s Q r m h => ?_⟩⟩
  unfold eVar at h
  split at h
  · rename_i v e
    obtain ⟨y, h1, h2⟩ := r.get j v e
    exact ⟨y, h1, h y H μ (.refl m) m h2⟩
  · exact h.elim
theorem me_int {i j} : ME X K EW (.Constant (.int i) j pos) (eC (.int i)) := ⟨⟨_, fun _ => pe_int, fun σ H ρ μ s Q r m h => h _ H μ (.refl m) m (by unfold Rep; rfl)⟩⟩
theorem me_bl {i j} : ME X K EW (.Constant (.bool i) j pos) (eC (.bl i)) := ⟨⟨_, fun _ => pe_bl, fun σ H ρ μ s Q r m h => h _ H μ (.refl m) m (by unfold Rep; rfl)⟩⟩
theorem me_non {j} : ME X K EW (.Constant .none j pos) (eC .non) := ⟨⟨_, fun _ => pe_non, fun σ H ρ μ s Q r m h => h _ H μ (.refl m) m (by unfold Rep; rfl)⟩⟩
theorem me_str {x j} : ME X K EW (.Constant (.str x) j pos) (eC (.str x)) := ⟨⟨_, fun _ => pe_str, fun σ H ρ μ s Q r m h => h _ H μ (.refl m) m (by unfold Rep; rfl)⟩⟩

/-- an operation by values -/
def OpS {ι : Type} (X : ι → Cx) (K : PySem.W.Frag) (f : Value → Value → Sem Value) (g : S → Val → Val → Option Val) : Prop :=
  ∃ r, (∀ i, OpR (X i) f r) ∧ ∀ x y H μ s a b v, Mem K H μ s → Rep K H μ a x → Rep K H μ b y → g s a b = some v → ∀ Q : VK, VP K μ H Q v s → r x y H Q
theorem me_op {op : Operator} {g : S → Val → Val → Option Val} (o : OpS X K (binaryOp op) g) (ha : ME X K EW a ma) (hb : ME X K EW b mb) : ME X K EW (.BinOp a op b pos) (eOp g ma mb) := by
  obtain ⟨ta, pa, sa⟩ := ha.ex
  obtain ⟨tb, pb, sb⟩ := hb.ex
  obtain ⟨r, pr, sr⟩ := o
  refine ⟨⟨_, fun i => pe_op (pr i) (pa i) (pb i), fun σ H ρ μ s Q hr m h => ?_⟩⟩
  refine sa σ H ρ μ s _ hr m (wp_mono (wp_bind h) (fun v s1 h1 => ?_) fun _ _ q => q)
  intro x H1 μ1 g1 m1 r1
  refine sb σ H1 ρ μ1 s1 _ (hr.mono g1 m) m1 (wp_mono (wp_bind h1) (fun u s2 h2 => ?_) fun _ _ q => q.mono g1)
  intro y H2 μ2 g2 m2 r2
  obtain ⟨w, e, q⟩ := wp_ofO h2
  exact sr x y H2 μ2 s2 v u w m2 (Rep.mono g2 m1 v x r1) r2 e Q (q.mono (g1.trans g2))
theorem me_cmp {op : CmpOp} {g : S → Val → Val → Option Val} (o : OpS X K (compareOp op) g) (ha : ME X K EW a ma) (hb : ME X K EW b mb) (hm : behindInMarks op b = false := by first | exact nomark _ | rfl) : ME X K EW (.Compare a [op] [b] pos) (eOp g ma mb) := by
  obtain ⟨ta, pa, sa⟩ := ha.ex
  obtain ⟨tb, pb, sb⟩ := hb.ex
  obtain ⟨r, pr, sr⟩ := o
  refine ⟨⟨_, fun i => pe_cmpR (pr i) (pa i) (pb i) hm, fun σ H ρ μ s Q hr m h => ?_⟩⟩
  refine sa σ H ρ μ s _ hr m (wp_mono (wp_bind h) (fun v s1 h1 => ?_) fun _ _ q => q)
  intro x H1 μ1 g1 m1 r1
  refine sb σ H1 ρ μ1 s1 _ (hr.mono g1 m) m1 (wp_mono (wp_bind h1) (fun u s2 h2 => ?_) fun _ _ q => q.mono g1)
  intro y H2 μ2 g2 m2 r2
  obtain ⟨w, e, q⟩ := wp_ofO h2
  exact sr x y H2 μ2 s2 v u w m2 (Rep.mono g2 m1 v x r1) r2 e Q (q.mono (g1.trans g2))
/-- behind a known value -/
theorem rep_isN {K : PySem.W.Frag} {H : Hp} {μ : Mu} {v : Val} {x : V} (r1 : Rep K H μ v x) : decide (x = .non) = isN v := by
  cases v <;> unfold Rep at r1
  case non => rw [r1]; rfl
  case bl => rw [r1]; rfl
  case int => rw [r1]; rfl
  case str => rw [r1]; rfl
  case tup => obtain ⟨a, _, e, _⟩ := r1; rw [e]; rfl
  case lst => obtain ⟨a, _, e, _⟩ := r1; rw [e]; rfl
  case scr => obtain ⟨a, _, e, _⟩ := r1; rw [e]; rfl
  case dct => exact r1.elim
  case ref => obtain ⟨a, e, _⟩ := r1; rw [e]; rfl
theorem me_isN {j pos'} (ha : ME X K EW a ma) : ME X K EW (.Compare a [.Is] [.Constant .none j pos'] pos) (eIsN ma) := by
  obtain ⟨ta, pa, sa⟩ := ha.ex
  refine ⟨⟨_, fun i => pe_cmp (pc_isN (pa i)), fun σ H ρ μ s Q hr m h => ?_⟩⟩
  refine sa σ H ρ μ s _ hr m (wp_mono (wp_bind h) (fun v s1 h1 => ?_) fun _ _ q => q)
  intro x H1 μ1 g1 m1 r1
  show Q (.bl (decide (x = .non))) H1
  rw [rep_isN r1]
  exact h1 _ H1 μ1 g1 m1 (by unfold Rep; rfl)
theorem me_notN {j pos'} (ha : ME X K EW a ma) : ME X K EW (.Compare a [.IsNot] [.Constant .none j pos'] pos) (eNotN ma) := by
  obtain ⟨ta, pa, sa⟩ := ha.ex
  refine ⟨⟨_, fun i => pe_cmp (pc_notN (pa i)), fun σ H ρ μ s Q hr m h => ?_⟩⟩
  refine sa σ H ρ μ s _ hr m (wp_mono (wp_bind h) (fun v s1 h1 => ?_) fun _ _ q => q)
  intro x H1 μ1 g1 m1 r1
  show Q (.bl (!decide (x = .non))) H1
  rw [rep_isN r1]
  exact h1 _ H1 μ1 g1 m1 (by unfold Rep; rfl)
theorem rep_bl {K : PySem.W.Frag} {H : Hp} {μ : Mu} {x : V} {k : Bool} (h : Rep K H μ (.bl k) x) : x = .bl k := by unfold Rep at h; exact h
theorem rep_int {K : PySem.W.Frag} {H : Hp} {μ : Mu} {x : V} {k : Int} (h : Rep K H μ (.int k) x) : x = .int k := by unfold Rep at h; exact h
theorem rep_of_bl {K : PySem.W.Frag} {H : Hp} {μ : Mu} {k : Bool} : Rep K H μ (.bl k) (.bl k) := by unfold Rep; rfl
theorem rep_of_int {K : PySem.W.Frag} {H : Hp} {μ : Mu} {k : Int} : Rep K H μ (.int k) (.int k) := by unfold Rep; rfl
theorem rep_of_non {K : PySem.W.Frag} {H : Hp} {μ : Mu} : Rep K H μ .non .non := by unfold Rep; rfl
/-- and, or of truths -/
theorem me_one {op} (h : ME X K EW a ma) : ME X K EW (.BoolOp op [a] pos) ma := let ⟨t, p, q⟩ := h.ex; ⟨⟨t, fun i => pe_one (p i), q⟩⟩
theorem me_and {rest : List Expr} (ha : ME X K EW a ma) (hb : ME X K EW (.BoolOp .And (b :: rest) pos) mb) : ME X K EW (.BoolOp .And (a :: b :: rest) pos) (eAnd ma mb) := by
  obtain ⟨ta, pa, sa⟩ := ha.ex
  obtain ⟨tb, pb, sb⟩ := hb.ex
  refine ⟨⟨_, fun i => pe_and (pa i) (pb i), fun σ H ρ μ s Q hr m h => ?_⟩⟩
  refine sa σ H ρ μ s _ hr m (wp_mono (wp_bind h) (fun v s1 h1 => ?_) fun _ _ q => q)
  intro x H1 μ1 g1 m1 r1
  split at h1
  · refine ⟨true, rep_bl r1, ?_⟩
    rw [if_pos rfl]
    exact sb σ H1 ρ μ1 s1 _ (hr.mono g1 m) m1 (wp_mono h1 (fun _ _ q => q.mono g1) fun _ _ q => q.mono g1)
  · refine ⟨false, rep_bl r1, ?_⟩
    rw [if_neg Bool.false_ne_true]
    exact h1 _ H1 μ1 g1 m1 rep_of_bl
  · exact h1.elim
theorem me_or {rest : List Expr} (ha : ME X K EW a ma) (hb : ME X K EW (.BoolOp .Or (b :: rest) pos) mb) : ME X K EW (.BoolOp .Or (a :: b :: rest) pos) (eOr ma mb) := by
  obtain ⟨ta, pa, sa⟩ := ha.ex
  obtain ⟨tb, pb, sb⟩ := hb.ex
  refine ⟨⟨_, fun i => pe_or (pa i) (pb i), fun σ H ρ μ s Q hr m h => ?_⟩⟩
  refine sa σ H ρ μ s _ hr m (wp_mono (wp_bind h) (fun v s1 h1 => ?_) fun _ _ q => q)
  intro x H1 μ1 g1 m1 r1
  split at h1
  · refine ⟨true, rep_bl r1, ?_⟩
    rw [if_pos rfl]
    exact h1 _ H1 μ1 g1 m1 rep_of_bl
  · refine ⟨false, rep_bl r1, ?_⟩
    rw [if_neg Bool.false_ne_true]
    exact sb σ H1 ρ μ1 s1 _ (hr.mono g1 m) m1 (wp_mono h1 (fun _ _ q => q.mono g1) fun _ _ q => q.mono g1)
  · exact h1.elim
theorem me_not (ha : ME X K EW a ma) : ME X K EW (.UnaryOp .Not a pos) (eNot ma) := by
  obtain ⟨ta, pa, sa⟩ := ha.ex
  refine ⟨⟨_, fun i => pe_not (pa i), fun σ H ρ μ s Q hr m h => ?_⟩⟩
  refine sa σ H ρ μ s _ hr m (wp_mono (wp_bind h) (fun v s1 h1 => ?_) fun _ _ q => q)
  intro x H1 μ1 g1 m1 r1
  split at h1
  · exact ⟨_, rep_bl r1, h1 _ H1 μ1 g1 m1 rep_of_bl⟩
  · exact h1.elim
/-- tests -/
theorem mt_val (ha : ME X K EW a ma) (he : ∀ i whole, isTrue a (X i).env whole = (do let v ← whole; standAt a.pos; holding [v] (truthy v)) := by intro _ _; rfl) : MT X K EW a (tVal ma) := by
  obtain ⟨ta, pa, sa⟩ := ha.ex
  refine ⟨⟨_, fun i => pt_val (pa i) (he i), fun σ H ρ μ s Q hr m h => ?_⟩⟩
  refine sa σ H ρ μ s _ hr m (wp_mono (wp_bind h) (fun v s1 h1 => ?_) fun _ _ q => q)
  intro x H1 μ1 g1 m1 r1
  split at h1
  · exact ⟨_, rep_bl r1, h1 H1 μ1 g1 m1⟩
  · exact h1.elim
/-- a comparison as a test -/
theorem mt_cmp {op : CmpOp} {g : S → Val → Val → Option Val} (o : OpS X K (compareOp op) g) (ha : ME X K EW a ma) (hb : ME X K EW b mb) (hm : behindInMarks op b = false := by first | exact nomark _ | rfl) : MT X K EW (.Compare a [op] [b] pos) (tVal (eOp g ma mb)) := by
  obtain ⟨ta, pa, sa⟩ := ha.ex
  obtain ⟨tb, pb, sb⟩ := hb.ex
  obtain ⟨r, pr, sr⟩ := o
  refine ⟨⟨_, fun i => pt_cmpR (pr i) (pa i) (pb i) hm, fun σ H ρ μ s Q hr m h => ?_⟩⟩
  have h := wp_bind h
  refine sa σ H ρ μ s _ hr m (wp_mono (wp_bind h) (fun v s1 h1 => ?_) fun _ _ q => q)
  intro x H1 μ1 g1 m1 r1
  refine sb σ H1 ρ μ1 s1 _ (hr.mono g1 m) m1 (wp_mono (wp_bind h1) (fun u s2 h2 => ?_) fun _ _ q => q.mono g1)
  intro y H2 μ2 g2 m2 r2
  obtain ⟨w, e, q⟩ := wp_ofO h2
  refine sr x y H2 μ2 s2 v u w m2 (Rep.mono g2 m1 v x r1) r2 e _ ?_
  intro z H3 μ3 g3 m3 r3
  split at q
  · exact ⟨_, rep_bl r3, q H3 μ3 ((g1.trans g2).trans g3) m3⟩
  · exact q.elim
theorem mt_isN {j pos'} (ha : ME X K EW a ma) : MT X K EW (.Compare a [.Is] [.Constant .none j pos'] pos) (tVal (eIsN ma)) := by
  obtain ⟨ta, pa, sa⟩ := ha.ex
  refine ⟨⟨_, fun i => pt_cmp (pc_isN (pa i)), fun σ H ρ μ s Q hr m h => ?_⟩⟩
  refine sa σ H ρ μ s _ hr m (wp_mono (wp_bind (wp_bind h)) (fun v s1 h1 => ?_) fun _ _ q => q)
  intro x H1 μ1 g1 m1 r1
  exact ⟨_, rfl, by rw [rep_isN r1]; exact h1 H1 μ1 g1 m1⟩
theorem mt_notN {j pos'} (ha : ME X K EW a ma) : MT X K EW (.Compare a [.IsNot] [.Constant .none j pos'] pos) (tVal (eNotN ma)) := by
  obtain ⟨ta, pa, sa⟩ := ha.ex
  refine ⟨⟨_, fun i => pt_cmp (pc_notN (pa i)), fun σ H ρ μ s Q hr m h => ?_⟩⟩
  refine sa σ H ρ μ s _ hr m (wp_mono (wp_bind (wp_bind h)) (fun v s1 h1 => ?_) fun _ _ q => q)
  intro x H1 μ1 g1 m1 r1
  exact ⟨_, rfl, by rw [rep_isN r1]; exact h1 H1 μ1 g1 m1⟩
theorem mw_and1 (ha : MT X K EW a mt) : MW X K EW (.BoolOp .And [a] pos) mt := let ⟨t, p, q⟩ := ha.ex; ⟨⟨t, fun i => pw_and1 (p i), q⟩⟩
theorem mw_or1 (ha : MT X K EW a mt) : MW X K EW (.BoolOp .Or [a] pos) mt := let ⟨t, p, q⟩ := ha.ex; ⟨⟨t, fun i => pw_or1 (p i), q⟩⟩
theorem mw_mt (ha : MW X K EW a mt) : MT X K EW a mt := let ⟨t, p, q⟩ := ha.ex; ⟨⟨t, fun i => PW.pt (p i), q⟩⟩
theorem mw_and {rest : List Expr} (ha : MT X K EW a mt) (hb : MW X K EW (.BoolOp .And (b :: rest) pos) mu) : MW X K EW (.BoolOp .And (a :: b :: rest) pos) (tAnd mt mu) := by
  obtain ⟨ta, pa, sa⟩ := ha.ex
  obtain ⟨tb, pb, sb⟩ := hb.ex
  refine ⟨⟨_, fun i => pw_and (pa i) (pb i), fun σ H ρ μ s Q hr m h => ?_⟩⟩
  refine sa σ H ρ μ s _ hr m (wp_mono (wp_bind h) (fun v s1 h1 => ?_) fun _ _ q => q)
  intro H1 μ1 g1 m1
  cases v with
  | true =>
    rw [if_pos rfl] at h1 ⊢
    exact sb σ H1 ρ μ1 s1 _ (hr.mono g1 m) m1 (wp_mono h1 (fun _ _ q => q.mono g1) fun _ _ q => q.mono g1)
  | false =>
    rw [if_neg Bool.false_ne_true] at h1 ⊢
    exact h1 H1 μ1 g1 m1
theorem mw_or {rest : List Expr} (ha : MT X K EW a mt) (hb : MW X K EW (.BoolOp .Or (b :: rest) pos) mu) : MW X K EW (.BoolOp .Or (a :: b :: rest) pos) (tOr mt mu) := by
  obtain ⟨ta, pa, sa⟩ := ha.ex
  obtain ⟨tb, pb, sb⟩ := hb.ex
  refine ⟨⟨_, fun i => pw_or (pa i) (pb i), fun σ H ρ μ s Q hr m h => ?_⟩⟩
  refine sa σ H ρ μ s _ hr m (wp_mono (wp_bind h) (fun v s1 h1 => ?_) fun _ _ q => q)
  intro H1 μ1 g1 m1
  cases v with
  | true =>
    rw [if_pos rfl] at h1 ⊢
    exact h1 H1 μ1 g1 m1
  | false =>
    rw [if_neg Bool.false_ne_true] at h1 ⊢
    exact sb σ H1 ρ μ1 s1 _ (hr.mono g1 m) m1 (wp_mono h1 (fun _ _ q => q.mono g1) fun _ _ q => q.mono g1)
theorem mt_not (ha : MT X K EW a mt) : MT X K EW (.UnaryOp .Not a pos) (tNot mt) := by
  obtain ⟨ta, pa, sa⟩ := ha.ex
  refine ⟨⟨_, fun i => pt_not (pa i), fun σ H ρ μ s Q hr m h => ?_⟩⟩
  refine sa σ H ρ μ s _ hr m (wp_mono (wp_bind h) (fun v s1 h1 => ?_) fun _ _ q => q)
  intro H1 μ1 g1 m1
  exact h1 H1 μ1 g1 m1
theorem me_if (hc : MT X K EW c mt) (ha : ME X K EW a ma) (hb : ME X K EW b mb) : ME X K EW (.IfExp c a b pos) (eIf mt ma mb) := by
  obtain ⟨tc, pc, sc⟩ := hc.ex
  obtain ⟨ta, pa, sa⟩ := ha.ex
  obtain ⟨tb, pb, sb⟩ := hb.ex
  refine ⟨⟨_, fun i => pe_ifExp (pc i) (pa i) (pb i), fun σ H ρ μ s Q hr m h => ?_⟩⟩
  refine sc σ H ρ μ s _ hr m (wp_mono (wp_bind h) (fun v s1 h1 => ?_) fun _ _ q => q)
  intro H1 μ1 g1 m1
  cases v with
  | true =>
    rw [if_pos rfl] at h1 ⊢
    exact sa σ H1 ρ μ1 s1 _ (hr.mono g1 m) m1 (wp_mono h1 (fun _ _ q => q.mono g1) fun _ _ q => q.mono g1)
  | false =>
    rw [if_neg Bool.false_ne_true] at h1 ⊢
    exact sb σ H1 ρ μ1 s1 _ (hr.mono g1 m) m1 (wp_mono h1 (fun _ _ q => q.mono g1) fun _ _ q => q.mono g1)
/-- arguments, displays -/
theorem ma_nil : MA X K EW [] aNil := ⟨fun ρ s xs s' h => by cases h; rfl, ⟨_, fun _ => pa_nil, fun σ H ρ μ s Q hr m h => h [] H μ (.refl m) m .nil⟩⟩
theorem ma_cons (ha : ME X K EW a ma) (hb : MA X K EW es mas) (hs : ∀ i, starEach (a :: es) (X i).env = (false, eval a (X i).env) :: starEach es (X i).env := by intro _; rfl) : MA X K EW (a :: es) (aCons ma mas) := by
  obtain ⟨ta, pa, sa⟩ := ha.ex
  obtain ⟨tb, pb, sb⟩ := hb.ex
  refine ⟨fun ρ s xs s' h => ?_, ⟨_, fun i => pa_cons (pa i) (pb i) (hs i), fun σ H ρ μ s Q hr m h => ?_⟩⟩
  · unfold aCons at h
    cases e1 : ma ρ s with
    | ok x s1 =>
      rw [e1, bind_ok] at h
      cases e2 : mas ρ s1 with
      | ok ys s2 =>
        rw [e2, bind_ok] at h
        cases h
        simp [hb.len _ _ _ _ e2]
      | ex _ _ => rw [e2] at h; cases h
      | no => rw [e2] at h; cases h
    | ex _ _ => rw [e1] at h; cases h
    | no => rw [e1] at h; cases h
  refine sa σ H ρ μ s _ hr m (wp_mono (wp_bind h) (fun v s1 h1 => ?_) fun _ _ q => q)
  intro x H1 μ1 g1 m1 r1
  refine sb σ H1 ρ μ1 s1 _ (hr.mono g1 m) m1 (wp_mono (wp_bind h1) (fun u s2 h2 => ?_) fun _ _ q => q.mono g1)
  intro y H2 μ2 g2 m2 r2
  exact h2 (x :: y) H2 μ2 (g1.trans g2) m2 (.cons (Rep.mono g2 m1 v x r1) r2)
theorem wp_len {α : Type} {r : R α} {Q : α → S → Prop} {E : Exn → S → Prop} (h : r.wp Q E) : r.wp (fun a s => r = .ok a s ∧ Q a s) E := by
  cases r with
  | ok a s => exact ⟨rfl, h⟩
  | ex e s => exact h
  | no => exact h
theorem me_tup {k} (ha : MA X K EW es mas) (hl : es.length ≤ sizeLine := by decide) : ME X K EW (.Tuple es k pos) (eTup mas) := by
  obtain ⟨ta, pa, sa⟩ := ha.ex
  refine ⟨⟨_, fun i => pe_tupF (pa i), fun σ H ρ μ s Q hr m h => ?_⟩⟩
  refine sa σ H ρ μ s _ hr m (wp_mono (wp_len (wp_bind h)) (fun v s1 h1 => ?_) fun _ _ q => q)
  obtain ⟨e1, h1⟩ := h1
  intro x H1 μ1 g1 m1 r1
  have el : x.length ≤ sizeLine := by rw [r1.length, ha.len _ _ _ _ e1]; exact hl
  refine ⟨el, fun p u hp tu => ?_⟩
  have g2 : Grow μ1 H1 μ1 (upd H1 p u) := m1.new hp
  refine h1 _ _ μ1 (g1.trans g2) (m1.upd_new hp) ?_
  unfold Rep
  exact ⟨p, x, rfl, .of upd_same tu, el, RepAll.mono g2 m1 _ _ r1⟩
/-- a new list: dead at once, alive -/
theorem dead_snd {t : TE} {mf : Fx} (q : ∀ σ H ρ μ s Q, SR K H μ ρ σ → Mem K H μ s → (mf ρ s).wp (FsP K μ H Q) (XP K μ H EW) → t σ H Q) :
    ∀ σ H ρ μ s Q, SR K H μ ρ σ → Mem K H μ s → (eDead mf ρ s).wp (VP K μ H Q) (XP K μ H EW) → t σ H Q := by
  intro σ H ρ μ s Q hr m h
  refine q σ H ρ μ s Q hr m (wp_mono (wp_bind h) (fun xs s1 h1 => ?_) fun _ _ q => q)
  intro a vs H' μ' g m' ha hh e hl r
  have off : Off μ' a := m'.offHid hh
  refine h1 (.ref a) H' μ' (g.unhide (m.off ha)) m'.unhide ?_
  unfold Rep
  exact ⟨a, vs, rfl, e, off, hl, r.unhide⟩
theorem me_dead {mf : Fx} (hf : MF X K EW a mf) : ME X K EW a (eDead mf) := by
  obtain ⟨t, p, q⟩ := hf.ex
  exact ⟨⟨t, p, dead_snd q⟩⟩
mutual
theorem rep_below {K : PySem.W.Frag} {H : Hp} {μ : Mu} : ∀ (v : Val) (x : V), Rep K H μ v x → below μ.fr.length v = true
  | .non, _, _ => by simp [below]
  | .bl _, _, _ => by simp [below]
  | .int _, _, _ => by simp [below]
  | .str _, _, _ => by simp [below]
  | .tup xs, x, h => by
    unfold Rep at h; unfold below
    obtain ⟨_, vs, _, _, _, hr⟩ := h
    exact repAll_below xs vs hr
  | .lst xs, x, h => by
    unfold Rep at h; unfold below
    obtain ⟨_, vs, _, _, _, _, hr⟩ := h
    exact repAll_below xs vs hr
  | .scr xs, x, h => by
    unfold Rep at h; unfold below
    obtain ⟨_, vs, _, _, _, hr⟩ := h
    exact repAll_below xs vs hr
  | .dct _ _, x, h => by unfold Rep at h; exact h.elim
  | .ref f n, x, h => by
    unfold Rep at h; unfold below
    obtain ⟨a, _, e⟩ := h
    exact decide_eq_true (lk_lt e)
theorem repAll_below {K : PySem.W.Frag} {H : Hp} {μ : Mu} : ∀ (v : List Val) (x : List V), RepAll K H μ v x → belowAll μ.fr.length v = true
  | [], _, _ => by simp [belowAll]
  | v :: vs, x, h => by
    unfold RepAll at h; unfold belowAll
    obtain ⟨w, ws, _, h1, h2⟩ := h
    rw [rep_below v w h1, repAll_below vs ws h2]; rfl
end
theorem live_snd {t : TE} {mf : Fx} (q : ∀ σ H ρ μ s Q, SR K H μ ρ σ → Mem K H μ s → (mf ρ s).wp (FsP K μ H Q) (XP K μ H EW) → t σ H Q) :
    ∀ σ H ρ μ s Q, SR K H μ ρ σ → Mem K H μ s → (eLive mf ρ s).wp (VP K μ H Q) (XP K μ H EW) → t σ H Q := by
  intro σ H ρ μ s Q hr m h
  refine q σ H ρ μ s Q hr m (wp_mono (wp_bind h) (fun xs s1 h1 => ?_) fun _ _ q => q)
  intro a vs H' μ' g m' ha hh e hl r
  cases s1 with
  | nil => exact h1.elim
  | cons fr s1 =>
    have bl : belowAll (s1.length + 1) xs = true := by
      have q := repAll_below xs vs r
      rw [m'.len] at q
      exact q
    obtain ⟨m2, r2⟩ := m'.comes e hl r bl hh
    exact h1 (.ref a) H' (μ'.ext a) (g.comes ha (m.off ha)) m2 r2
theorem me_live {mf : Fx} (hf : MF X K EW a mf) : ME X K EW a (eLive mf) := by
  obtain ⟨t, p, q⟩ := hf.ex
  exact ⟨⟨t, p, live_snd q⟩⟩
end
end FM

set_option autoImplicit false
/-! operators, builtins and methods by values -/
namespace FM
open PySem PySem.Spec PyProof.Rows L2

structure CxF {ι : Type} (X : ι → Cx) (K : PySem.W.Frag) : Prop where
  calm : ∀ i, (X i).calm = true
  nd : ∀ i, (X i).N.Nodup
  un : ∀ i, (X i).A.units + 100 < cLine
  kk : ∀ i, (X i).K = K

section
variable {K : PySem.W.Frag} {H : Hp} {μ : Mu} {s : S}
mutual
theorem pure_dp : ∀ (v : Val) (x : V), Rep K H μ v x → pure v = true → Dp K H x (toD v) ∧ (toD v).canLay0 = true
  | .non, x, h, _ => by unfold Rep at h; rw [h]; exact ⟨.non, by simp [toD, PyData.canLay0]⟩
  | .bl b, x, h, _ => by unfold Rep at h; rw [h]; exact ⟨.bl b, by simp [toD, PyData.canLay0]⟩
  | .int i, x, h, _ => by unfold Rep at h; rw [h]; exact ⟨.int i, by simp [toD, PyData.canLay0]⟩
  | .str z, x, h, p => by unfold Rep at h; unfold pure at p; rw [h]; exact ⟨.str z, by simp [toD, PyData.canLay0, p]⟩
  | .tup xs, x, h, p => by
    unfold Rep at h; unfold pure at p
    obtain ⟨a, vs, e, hq, _, hr⟩ := h
    obtain ⟨h1, h2⟩ := pureAll_dp xs vs hr p
    rw [e]
    exact ⟨by unfold toD; exact .tup hq.sqT h1, by unfold toD PyData.canLay0; exact h2⟩
  | .lst xs, x, h, p => by
    unfold Rep at h; unfold pure at p
    obtain ⟨a, vs, e, hq, _, _, hr⟩ := h
    obtain ⟨h1, h2⟩ := pureAll_dp xs vs hr p
    rw [e]
    exact ⟨by unfold toD; exact .lst (.of hq) h1, by unfold toD PyData.canLay0; exact h2⟩
  | .scr xs, x, h, p => by
    unfold Rep at h; unfold pure at p
    obtain ⟨a, vs, e, hq, _, hr⟩ := h
    obtain ⟨h1, h2⟩ := pureAll_dp xs vs hr p
    rw [e]
    have hS : SqL K H a vs := hq.elim (fun q => .inl q.1) (fun q => q H)
    exact ⟨by unfold toD; exact .lst hS h1, by unfold toD PyData.canLay0; exact h2⟩
  | .dct _ _, x, h, _ => by unfold Rep at h; exact h.elim
  | .ref _ _, x, h, p => by simp [pure] at p
theorem pureAll_dp : ∀ (v : List Val) (x : List V), RepAll K H μ v x → pureAll v = true → DpAll K H x (toDs v) ∧ PyData.canLayAll0 (toDs v) = true
  | [], x, h, _ => by unfold RepAll at h; rw [h]; exact ⟨.nil, by simp [toDs, PyData.canLayAll0]⟩
  | v :: vs, x, h, p => by
    unfold RepAll at h; unfold pureAll at p
    obtain ⟨w, ws, e, h1, h2⟩ := h
    simp only [Bool.and_eq_true] at p
    obtain ⟨a1, a2⟩ := pure_dp v w h1 p.1
    obtain ⟨b1, b2⟩ := pureAll_dp vs ws h2 p.2
    rw [e]
    exact ⟨by unfold toDs; exact .cons a1 b1, by unfold toDs PyData.canLayAll0; rw [a2, b2]; rfl⟩
end
theorem mapM_cons {α β : Type} {f : α → Option β} {x : α} {xs : List α} {ws : List β} (h : (x :: xs).mapM f = some ws) : ∃ w r, ws = w :: r ∧ f x = some w ∧ xs.mapM f = some r := by
  rw [List.mapM_cons] at h
  cases e : f x with
  | none => rw [e] at h; simp at h
  | some w =>
    rw [e] at h
    cases e2 : xs.mapM f with
    | none => rw [e2] at h; simp at h
    | some r =>
      rw [e2] at h
      simp at h
      exact ⟨w, r, h.symm, rfl, rfl⟩
theorem mapM_dp {f : Val → Option Val} (hf : ∀ v x w, Rep K H μ v x → f v = some w → Dp K H x (toD w) ∧ (toD w).canLay0 = true) : ∀ (v : List Val) (x : List V) (ws : List Val), RepAll K H μ v x → v.mapM f = some ws → DpAll K H x (toDs ws) ∧ PyData.canLayAll0 (toDs ws) = true
  | [], x, ws, h, e => by
    unfold RepAll at h
    have : ws = [] := by simpa using e.symm
    rw [h, this]; exact ⟨.nil, by simp [toDs, PyData.canLayAll0]⟩
  | v :: vs, x, ws, h, e => by
    unfold RepAll at h
    obtain ⟨w, us, e1, h1, h2⟩ := h
    obtain ⟨y, r, e2, e3, e4⟩ := mapM_cons e
    obtain ⟨a1, a2⟩ := hf v w y h1 e3
    obtain ⟨b1, b2⟩ := mapM_dp hf vs us r h2 e4
    rw [e1, e2]
    exact ⟨by unfold toDs; exact .cons a1 b1, by unfold toDs PyData.canLayAll0; rw [a2, b2]; rfl⟩
theorem res_dp (m : Mem K H μ s) : ∀ (k : Nat) (v : Val) (x : V) (w : Val), Rep K H μ v x → res s k v = some w → Dp K H x (toD w) ∧ (toD w).canLay0 = true
  | 0, v, x, w, h, e => by
    unfold res at e
    split at e
    · rename_i p; cases e; exact pure_dp v x h p
    · cases e
  | k + 1, v, x, w, h, e => by
    unfold res at e
    split at e
    · rename_i p; cases e; exact pure_dp v x h p
    · split at e
      · rename_i f n _
        unfold Rep at h
        obtain ⟨a, ea, el⟩ := h
        split at e
        · rename_i ys el2
          obtain ⟨vs, hv, _, hr⟩ := m.cel f n a _ el el2
          cases em : List.mapM (res s k) ys with
          | none => rw [em] at e; cases e
          | some ws =>
            rw [em] at e
            cases e
            obtain ⟨h1, h2⟩ := mapM_dp (fun v x w => res_dp m k v x w) ys vs ws hr em
            rw [ea]
            exact ⟨by unfold toD; exact .lst (.of hv) h1, by unfold toD PyData.canLay0; exact h2⟩
        · cases e
      · rename_i xs _
        unfold Rep at h
        obtain ⟨a, vs, ea, hq, _, hr⟩ := h
        cases em : List.mapM (res s k) xs with
        | none => rw [em] at e; cases e
        | some ws =>
          rw [em] at e
          cases e
          obtain ⟨h1, h2⟩ := mapM_dp (fun v x w => res_dp m k v x w) xs vs ws hr em
          rw [ea]
          exact ⟨by unfold toD; exact .tup hq.sqT h1, by unfold toD PyData.canLay0; exact h2⟩
      · rename_i xs _
        unfold Rep at h
        obtain ⟨a, vs, ea, hq, _, _, hr⟩ := h
        cases em : List.mapM (res s k) xs with
        | none => rw [em] at e; cases e
        | some ws =>
          rw [em] at e
          cases e
          obtain ⟨h1, h2⟩ := mapM_dp (fun v x w => res_dp m k v x w) xs vs ws hr em
          rw [ea]
          exact ⟨by unfold toD; exact .lst (.of hq) h1, by unfold toD PyData.canLay0; exact h2⟩
      · cases e
/-- a list, a tuple, to be read -/
theorem rep_asL (m : Mem K H μ s) {v : Val} {x : V} {xs : List Val} (h : Rep K H μ v x) (e : asL s v = some xs) : ∃ a vs, x = .ref a ∧ SqL K H a vs ∧ vs.length ≤ sizeLine ∧ RepAll K H μ xs vs := by
  cases v with
  | lst ys =>
    cases e
    unfold Rep at h
    obtain ⟨a, vs, ea, hq, _, hl, hr⟩ := h
    exact ⟨a, vs, ea, .of hq, hl, hr⟩
  | scr ys =>
    cases e
    unfold Rep at h
    obtain ⟨a, vs, ea, hq, hl, hr⟩ := h
    exact ⟨a, vs, ea, hq.elim (fun q => .inl q.1) (fun q => q H), hl, hr⟩
  | ref f n =>
    unfold Rep at h
    obtain ⟨a, ea, el⟩ := h
    simp only [asL] at e
    split at e
    · rename_i ys el2
      cases e
      obtain ⟨vs, hv, hl, hr⟩ := m.cel f n a _ el el2
      exact ⟨a, vs, ea, .of hv, hl, hr⟩
    · cases e
  | _ => cases e
/-- .. as a tracked list (not the script) -/
theorem rep_asL' (m : Mem K H μ s) {v : Val} {x : V} {xs : List Val} (h : Rep K H μ v x) (e : asL s v = some xs) (ns : ∀ ys, v ≠ .scr ys) : ∃ a vs, x = .ref a ∧ H a = some (.lst vs) ∧ vs.length ≤ sizeLine ∧ RepAll K H μ xs vs := by
  cases v with
  | lst ys =>
    cases e
    unfold Rep at h
    obtain ⟨a, vs, ea, hq, _, hl, hr⟩ := h
    exact ⟨a, vs, ea, hq, hl, hr⟩
  | scr ys => exact (ns ys rfl).elim
  | ref f n =>
    unfold Rep at h
    obtain ⟨a, ea, el⟩ := h
    simp only [asL] at e
    split at e
    · rename_i ys el2
      cases e
      obtain ⟨vs, hv, hl, hr⟩ := m.cel f n a _ el el2
      exact ⟨a, vs, ea, hv, hl, hr⟩
    · cases e
  | _ => cases e
theorem rep_asQ (m : Mem K H μ s) {v : Val} {x : V} {xs : List Val} (h : Rep K H μ v x) (e : asQ s v = some xs) : ∃ a vs, x = .ref a ∧ (SqL K H a vs ∨ SqT K H a vs) ∧ vs.length ≤ sizeLine ∧ RepAll K H μ xs vs := by
  unfold asQ at e
  split at e
  · cases e
    unfold Rep at h
    obtain ⟨a, vs, ea, hq, hl, hr⟩ := h
    exact ⟨a, vs, ea, .inr hq.sqT, hl, hr⟩
  · obtain ⟨a, vs, ea, hq, hl, hr⟩ := rep_asL m h e
    exact ⟨a, vs, ea, .inl hq, hl, hr⟩
theorem rep_tup {xs : List Val} {x : V} (h : Rep K H μ (.tup xs) x) : ∃ a vs, x = .ref a ∧ RTup K H a vs ∧ vs.length ≤ sizeLine ∧ RepAll K H μ xs vs := by
  unfold Rep at h; exact h
theorem rep_str {z : Str} {x : V} (h : Rep K H μ (.str z) x) : x = .str z := by unfold Rep at h; exact h
theorem intsOf_rep : ∀ {xs : List Val} {vs : List V} {ns : List Int}, RepAll K H μ xs vs → intsOf xs = some ns → vs = ns.map V.int ∧ xs = ns.map Val.int
  | [], vs, ns, h, e => by
    unfold RepAll at h
    cases e; exact ⟨h, rfl⟩
  | v :: xs, vs, ns, h, e => by
    unfold RepAll at h
    obtain ⟨w, ws, e1, h1, h2⟩ := h
    cases v with
    | int i =>
      simp only [intsOf] at e
      cases e2 : intsOf xs with
      | none => rw [e2] at e; cases e
      | some r =>
        rw [e2] at e
        cases e
        obtain ⟨a, b⟩ := intsOf_rep h2 e2
        rw [e1, a, b, rep_int h1]
        exact ⟨rfl, rfl⟩
    | _ => simp [intsOf] at e
theorem repInts : ∀ (ns : List Int), RepAll K H μ (ns.map Val.int) (ns.map V.int)
  | [] => .nil
  | n :: ns => .cons rep_of_int (repInts ns)
theorem boolsOf_rep : ∀ {xs : List Val} {vs : List V} {ns : List Bool}, RepAll K H μ xs vs → boolsOf xs = some ns → vs = ns.map V.bl
  | [], vs, ns, h, e => by
    unfold RepAll at h
    cases e; exact h
  | v :: xs, vs, ns, h, e => by
    unfold RepAll at h
    obtain ⟨w, ws, e1, h1, h2⟩ := h
    cases v with
    | bl i =>
      simp only [boolsOf] at e
      cases e2 : boolsOf xs with
      | none => rw [e2] at e; cases e
      | some r =>
        rw [e2] at e
        cases e
        rw [e1, boolsOf_rep h2 e2, rep_bl h1]
        rfl
    | _ => simp [boolsOf] at e
end

section
variable {X : Cx}
theorem OpR.or {f : Value → Value → Sem Value} {r r' : R2} (h : OpR X f r) (h' : OpR X f r') : OpR X f (fun x y H Q => r x y H Q ∨ r' x y H Q) := by
  intro pins s σ H x y v u Q I rx ry q
  rcases q with q | q
  · exact h pins s σ H x y v u Q I rx ry q
  · exact h' pins s σ H x y v u Q I rx ry q
/-! ### == -/
def rEqC (K : PySem.W.Frag) : R2 := fun x y H Q => ∃ d e, Dp K H x d ∧ Dp K H y e ∧ d.canLay0 = true ∧ e.canLay0 = true ∧ min d.depth e.depth ≤ 64 ∧ Q (.bl (PyData.eqv d e)) H
def rNeC (K : PySem.W.Frag) : R2 := fun x y H Q => ∃ d e, Dp K H x d ∧ Dp K H y e ∧ d.canLay0 = true ∧ e.canLay0 = true ∧ min d.depth e.depth ≤ 64 ∧ Q (.bl (!PyData.eqv d e)) H
theorem op_eqC (hu : X.A.units + 100 < cLine) : OpR X (compareOp .Eq) (rEqC X.K) := by
  intro pins s σ H x y v u Q I rx ry h
  obtain ⟨d, e, hd, he, sd, se, hm, q⟩ := h
  obtain ⟨as, r1⟩ := Dp.reads I d x v hd rx
  obtain ⟨bs, r2⟩ := Dp.reads I e y u he ry
  exact SeqAt.compareEq_reads r1 r2 sd se (by omega) ⟨.bl _, H, I, rfl, q⟩
theorem op_neC (hu : X.A.units + 100 < cLine) : OpR X (compareOp .NotEq) (rNeC X.K) := by
  intro pins s σ H x y v u Q I rx ry h
  obtain ⟨d, e, hd, he, sd, se, hm, q⟩ := h
  obtain ⟨as, r1⟩ := Dp.reads I d x v hd rx
  obtain ⟨bs, r2⟩ := Dp.reads I e y u he ry
  exact SeqAt.compareNe_reads r1 r2 sd se (by omega) ⟨.bl _, H, I, rfl, q⟩
end
section
variable {ι : Type} {X : ι → Cx} {K : PySem.W.Frag}
theorem os_eq (c : CxF X K) : OpS X K (compareOp .Eq) opEq := by
  refine ⟨fun x y H Q => rEq x y H Q ∨ rEqC K x y H Q, fun i => OpR.or op_eq (c.kk i ▸ op_eqC (c.un i)), fun x y H μ s a b v m ra rb e Q q => ?_⟩
  unfold opEq at e
  split at e
  · rename_i z z'
    cases e
    rw [rep_str ra, rep_str rb]
    refine .inl ⟨rfl, ?_⟩
    have e : decide (V.str z = V.str z') = decide (z = z') := by by_cases h : z = z' <;> simp [h]
    rw [e]
    exact q _ H μ (.refl m) m rep_of_bl
  · split at e
    · rename_i u w e1 e2
      split at e
      · rename_i hs
        cases e
        obtain ⟨h1, h2⟩ := res_dp m 8 a x u ra e1
        obtain ⟨h3, h4⟩ := res_dp m 8 b y w rb e2
        exact .inr ⟨toD u, toD w, h1, h3, h2, h4, of_decide_eq_true hs, q _ H μ (.refl m) m rep_of_bl⟩
      · cases e
    · cases e
theorem os_ne (c : CxF X K) : OpS X K (compareOp .NotEq) opNe := by
  refine ⟨fun x y H Q => rNe x y H Q ∨ rNeC K x y H Q, fun i => OpR.or op_ne (c.kk i ▸ op_neC (c.un i)), fun x y H μ s a b v m ra rb e Q q => ?_⟩
  unfold opNe at e
  split at e
  · rename_i z z'
    cases e
    rw [rep_str ra, rep_str rb]
    refine .inl ⟨rfl, ?_⟩
    have e : (!decide (V.str z = V.str z')) = !decide (z = z') := by by_cases h : z = z' <;> simp [h]
    rw [e]
    exact q _ H μ (.refl m) m rep_of_bl
  · split at e
    · rename_i u w e1 e2
      split at e
      · rename_i hs
        cases e
        obtain ⟨h1, h2⟩ := res_dp m 8 a x u ra e1
        obtain ⟨h3, h4⟩ := res_dp m 8 b y w rb e2
        exact .inr ⟨toD u, toD w, h1, h3, h2, h4, of_decide_eq_true hs, q _ H μ (.refl m) m rep_of_bl⟩
      · cases e
    · cases e
/-! ### order of ints -/
theorem os_int {op : CmpOp} {f : Int → Int → Bool} (h : ∀ i, OpR (X i) (compareOp op) (rI0 fun i j => .bl (f i j))) : OpS X K (compareOp op) (opI f) := by
  refine ⟨_, h, fun x y H μ s a b v m ra rb e Q q => ?_⟩
  unfold opI at e
  split at e
  · cases e
    exact ⟨_, _, rep_int ra, rep_int rb, q _ H μ (.refl m) m rep_of_bl⟩
  · cases e
theorem os_lt : OpS X K (compareOp .Lt) opLt := os_int fun _ => op_lt
theorem os_le : OpS X K (compareOp .LtE) opLe := os_int fun _ => op_le
theorem os_gt : OpS X K (compareOp .Gt) opGt := os_int fun _ => op_gt
theorem os_ge : OpS X K (compareOp .GtE) opGe := os_int fun _ => op_ge
/-! ### in -/
def rInC (K : PySem.W.Frag) (neg : Bool) : R2 := fun x y H Q => ∃ d ds, Dp K H x d ∧ (Dp K H y (.list ds) ∨ Dp K H y (.tuple ds)) ∧ d.canLay0 = true ∧ PyData.canLayAll0 ds = true ∧ min (PyData.depthAll ds) d.depth ≤ 64 ∧ Q (.bl (if neg then !ds.any fun z => PyData.eqv z d else ds.any fun z => PyData.eqv z d)) H
theorem op_inC {X : Cx} (hu : X.A.units + 100 < cLine) : OpR X (compareOp .In) (rInC X.K false) := by
  intro pins s σ H x y v u Q I rx ry h
  obtain ⟨d, ds, hd, he, sd, se, hm, q⟩ := h
  obtain ⟨as, r1⟩ := Dp.reads I d x v hd rx
  rcases he with he | he
  · obtain ⟨bs, r2⟩ := Dp.reads I (.list ds) y u he ry
    exact SeqAt.in_list_reads r2 r1 se sd (by omega) ⟨.bl _, H, I, rfl, q⟩
  · obtain ⟨bs, r2⟩ := Dp.reads I (.tuple ds) y u he ry
    exact SeqAt.in_tuple_reads r2 r1 se sd (by omega) ⟨.bl _, H, I, rfl, q⟩
theorem op_notInC {X : Cx} (hu : X.A.units + 100 < cLine) : OpR X (compareOp .NotIn) (rInC X.K true) := by
  intro pins s σ H x y v u Q I rx ry h
  obtain ⟨d, ds, hd, he, sd, se, hm, q⟩ := h
  obtain ⟨as, r1⟩ := Dp.reads I d x v hd rx
  rcases he with he | he
  · obtain ⟨bs, r2⟩ := Dp.reads I (.list ds) y u he ry
    exact SeqAt.notIn_list_reads r2 r1 se sd (by omega) ⟨.bl _, H, I, rfl, q⟩
  · obtain ⟨bs, r2⟩ := Dp.reads I (.tuple ds) y u he ry
    exact SeqAt.notIn_tuple_reads r2 r1 se sd (by omega) ⟨.bl _, H, I, rfl, q⟩
theorem any_toDs (a : PyData) : ∀ ys : List Val, ((toDs ys).any fun z => PyData.eqv z a) = ys.any fun z => PyData.eqv (toD z) a
  | [] => rfl
  | y :: ys => by unfold toDs; simp only [List.any_cons, any_toDs a ys]
theorem inQ_dp {H : Hp} {μ : Mu} {s : S} {x y : V} {a b : Val} {r : Bool} (m : Mem K H μ s) (ra : Rep K H μ a x) (rb : Rep K H μ b y) (e : inQ s a b = some r) :
    ∃ d ds, Dp K H x d ∧ (Dp K H y (.list ds) ∨ Dp K H y (.tuple ds)) ∧ d.canLay0 = true ∧ PyData.canLayAll0 ds = true ∧ min (PyData.depthAll ds) d.depth ≤ 64 ∧ r = ds.any fun z => PyData.eqv z d := by
  unfold inQ at e
  split at e
  · rename_i xs exs
    split at e
    · rename_i u ys e1 e2
      split at e
      · rename_i hs
        cases e
        obtain ⟨h1, h2⟩ := res_dp m 8 a x u ra e1
        obtain ⟨p, vs, ep, hq, _, hr⟩ := rep_asQ m rb exs
        obtain ⟨h3, h4⟩ := mapM_dp (fun v x w => res_dp m 8 v x w) xs vs ys hr e2
        refine ⟨toD u, toDs ys, h1, ?_, h2, h4, ?_, (any_toDs _ _).symm⟩
        · rw [ep]
          rcases hq with hq | hq
          · exact .inl (.lst hq h3)
          · exact .inr (.tup hq h3)
        · have q : min (toD (.lst ys)).depth (toD u).depth ≤ 64 := of_decide_eq_true hs
          simp only [toD, PyData.depth] at q
          omega
      · cases e
    · cases e
  · cases e
theorem os_in (c : CxF X K) : OpS X K (compareOp .In) opIn := by
  refine ⟨rInC K false, fun i => c.kk i ▸ op_inC (c.un i), fun x y H μ s a b v m ra rb e Q q => ?_⟩
  unfold opIn at e
  cases e1 : inQ s a b with
  | none => rw [e1] at e; cases e
  | some r =>
    rw [e1] at e
    cases e
    obtain ⟨d, ds, h1, h2, h3, h4, h5, h6⟩ := inQ_dp m ra rb e1
    refine ⟨d, ds, h1, h2, h3, h4, h5, ?_⟩
    rw [← h6]
    exact q _ H μ (.refl m) m rep_of_bl
theorem os_notIn (c : CxF X K) : OpS X K (compareOp .NotIn) opNotIn := by
  refine ⟨rInC K true, fun i => c.kk i ▸ op_notInC (c.un i), fun x y H μ s a b v m ra rb e Q q => ?_⟩
  unfold opNotIn at e
  cases e1 : inQ s a b with
  | none => rw [e1] at e; cases e
  | some r =>
    rw [e1] at e
    cases e
    obtain ⟨d, ds, h1, h2, h3, h4, h5, h6⟩ := inQ_dp m ra rb e1
    refine ⟨d, ds, h1, h2, h3, h4, h5, ?_⟩
    rw [← h6]
    exact q _ H μ (.refl m) m rep_of_bl
/-! ### arithmetic -/
theorem os_add (c : CxF X K) : OpS X K (binaryOp .Add) opAdd := by
  refine ⟨_, fun i => OpR.or op_add (OpR.or op_add_str (show OpR (X i) _ (rCatF K) from c.kk i ▸ op_catF)), fun x y H μ s a b v m ra rb e Q q => ?_⟩
  unfold opAdd at e
  split at e
  · cases e
    exact .inl ⟨_, _, rep_int ra, rep_int rb, q _ H μ (.refl m) m rep_of_int⟩
  · rename_i i j
    split at e
    · rename_i hl
      cases e
      exact .inr (.inl ⟨_, _, rep_str ra, rep_str rb, hl, q _ H μ (.refl m) m (by unfold Rep; rfl)⟩)
    · cases e
  · rename_i i j
    split at e
    · rename_i hl
      cases e
      obtain ⟨p1, vs, e1, q1, l1, r1⟩ := rep_tup ra
      obtain ⟨p2, ws, e2, q2, l2, r2⟩ := rep_tup rb
      refine .inr (.inr ⟨p1, p2, vs, ws, e1, e2, q1.sqT, q2.sqT, by rw [r1.length, r2.length]; exact hl, fun ev => ?_, fun ew => ?_, fun p u hp tu => ?_⟩)
      · refine q _ H μ (.refl m) m ?_
        unfold Rep
        refine ⟨p2, ws, rfl, q2, l2, ?_⟩
        have : i = [] := by have := r1.length; rw [ev] at this; exact List.eq_nil_of_length_eq_zero this.symm
        rw [this]; exact r2
      · refine q _ H μ (.refl m) m ?_
        unfold Rep
        refine ⟨p1, vs, rfl, q1, l1, ?_⟩
        have : j = [] := by have := r2.length; rw [ew] at this; exact List.eq_nil_of_length_eq_zero this.symm
        rw [this, List.append_nil]; exact r1
      · have g : Grow μ H μ (upd H p u) := m.new hp
        refine q _ _ μ g (m.upd_new hp) ?_
        unfold Rep
        exact ⟨p, vs ++ ws, rfl, .of upd_same tu, by rw [List.length_append, r1.length, r2.length]; exact hl, RepAll.mono g m _ _ (r1.append r2)⟩
    · cases e
  · cases e
theorem os_sub : OpS X K (binaryOp .Sub) opSub := by
  refine ⟨_, fun _ => op_sub, fun x y H μ s a b v m ra rb e Q q => ?_⟩
  unfold opSub at e
  split at e
  · cases e
    exact ⟨_, _, rep_int ra, rep_int rb, q _ H μ (.refl m) m rep_of_int⟩
  · cases e
theorem os_mod : OpS X K (binaryOp .Mod) opMod := by
  refine ⟨_, fun _ => op_mod, fun x y H μ s a b v m ra rb e Q q => ?_⟩
  unfold opMod at e
  split at e
  · split at e
    · rename_i hj
      cases e
      exact ⟨_, _, rep_int ra, rep_int rb, hj, q _ H μ (.refl m) m rep_of_int⟩
    · cases e
  · cases e
theorem os_div : OpS X K (binaryOp .FloorDiv) opDiv := by
  refine ⟨_, fun _ => op_fdiv, fun x y H μ s a b v m ra rb e Q q => ?_⟩
  unfold opDiv at e
  split at e
  · split at e
    · rename_i hj
      cases e
      exact ⟨_, _, rep_int ra, rep_int rb, hj, q _ H μ (.refl m) m rep_of_int⟩
    · cases e
  · cases e
theorem os_pow : OpS X K (binaryOp .Pow) opPow := by
  refine ⟨_, fun _ => op_pow, fun x y H μ s a b v m ra rb e Q q => ?_⟩
  unfold opPow at e
  split at e
  · split at e
    · rename_i hj
      cases e
      exact ⟨_, _, rep_int ra, rep_int rb, hj, q _ H μ (.refl m) m rep_of_int⟩
    · cases e
  · cases e
theorem os_mul : OpS X K (binaryOp .Mult) opMul := by
  refine ⟨_, fun _ => op_mul, fun x y H μ s a b v m ra rb e Q q => ?_⟩
  unfold opMul at e
  split at e
  · split at e
    · rename_i i j hj
      cases e
      refine ⟨_, _, rep_int ra, rep_int rb, ?_, q _ H μ (.refl m) m rep_of_int⟩
      rcases hj with h | h
      · exact .inl (by omega)
      · exact .inr (by omega)
    · cases e
  · cases e
/-! ### subscripts -/
theorem ixN_eq (n : Nat) (i : Int) : FM.ixN n i = L2.ixN n i := rfl
theorem rep_at {H : Hp} {μ : Mu} {K : PySem.W.Frag} {xs : List Val} {vs : List V} {i : Int} {v : Val} (hr : RepAll K H μ xs vs) (e : ((FM.ixN xs.length i).bind fun j => xs[j]?) = some v) : ∃ x, atI vs i = some x ∧ Rep K H μ v x := by
  unfold atI
  rw [hr.length, ← ixN_eq]
  cases ej : FM.ixN xs.length i with
  | none => rw [ej] at e; cases e
  | some j =>
    rw [ej] at e
    obtain ⟨x, h1, h2⟩ := hr.get (i := j) e
    exact ⟨x, h1, h2⟩
theorem ix_lt {X : Cx} : IxR X (fun x y H Q => rIxL X.K x y H Q ∨ rIxT X.K x y H Q) := IxR.or ix_list ix_tup
theorem me_ix {EW : XK} {a b : Expr} {ma mb : Ex} {pos : Pos} (c : CxF X K) (ha : ME X K EW a ma) (hb : ME X K EW b mb) (hs : PlainIx b := by exact fun _ _ => rfl) : ME X K EW (.Subscript a b pos) (eOp opIx ma mb) := by
  obtain ⟨ta, pa, sa⟩ := ha.ex
  obtain ⟨tb, pb, sb⟩ := hb.ex
  refine ⟨⟨tOp (fun x y H Q => rIxL K x y H Q ∨ rIxT K x y H Q) ta tb, fun i => c.kk i ▸ pe_ix ix_lt (pa i) (pb i) hs, fun σ H ρ μ s Q hr m h => ?_⟩⟩
  refine sa σ H ρ μ s _ hr m (wp_mono (wp_bind h) (fun v s1 h1 => ?_) fun _ _ q => q)
  intro x H1 μ1 g1 m1 r1
  refine sb σ H1 ρ μ1 s1 _ (hr.mono g1 m) m1 (wp_mono (wp_bind h1) (fun u s2 h2 => ?_) fun _ _ q => q.mono g1)
  intro y H2 μ2 g2 m2 r2
  obtain ⟨w, e, q⟩ := wp_ofO h2
  have ra := Rep.mono g2 m1 v x r1
  unfold opIx at e
  split at e
  · rename_i xs i exs
    obtain ⟨p, vs, ep, hq, _, hrr⟩ := rep_asQ m2 ra exs
    obtain ⟨z, hz, rz⟩ := rep_at hrr e
    have qq := q z H2 μ2 (g1.trans g2) m2 rz
    rcases hq with hq | hq
    · exact .inl ⟨p, vs, i, z, ep, rep_int r2, hq, hz, qq⟩
    · exact .inr ⟨p, vs, i, z, ep, rep_int r2, hq, hz, qq⟩
  · cases e
/-! ### slices -/
theorem sIx_eq (n d : Nat) (o : Option Int) : FM.sIx n d o = HT.sIx n d o := rfl
theorem repCut {H : Hp} {μ : Mu} {K : PySem.W.Frag} {xs : List Val} {vs : List V} (lo hi : Option Int) (hr : RepAll K H μ xs vs) : RepAll K H μ (cutL xs lo hi) (cutV vs lo hi) := by
  unfold cutL cutV
  simp only [sIx_eq, hr.length]
  exact (hr.drop _).take _
theorem mo_none {EW : XK} : MO X K EW none oNone := ⟨⟨_, fun _ => po_none, fun σ H ρ μ s Q hr m h => h H μ (.refl m) m⟩⟩
theorem mo_some {EW : XK} {a : Expr} {ma : Ex} (ha : ME X K EW a ma) : MO X K EW (some a) (oSome ma) := by
  obtain ⟨ta, pa, sa⟩ := ha.ex
  refine ⟨⟨_, fun i => po_some (pa i), fun σ H ρ μ s Q hr m h => ?_⟩⟩
  refine sa σ H ρ μ s _ hr m (wp_mono (wp_bind h) (fun v s1 h1 => ?_) fun _ _ q => q)
  intro x H1 μ1 g1 m1 r1
  split at h1
  · exact ⟨_, rep_int r1, h1 H1 μ1 g1 m1⟩
  · exact h1.elim
theorem me_slT {EW : XK} {a : Expr} {lo hi : Option Expr} {ma : Ex} {ml mh : Ox} {p2 pos : Pos} (c : CxF X K) (ha : ME X K EW a ma) (hl : MO X K EW lo ml) (hh : MO X K EW hi mh) : ME X K EW (.Subscript a (.Slice lo hi none p2) pos) (eSlT ma ml mh) := by
  obtain ⟨ta, pa, sa⟩ := ha.ex
  obtain ⟨tl, pl, sl⟩ := hl.ex
  obtain ⟨th, ph, sh⟩ := hh.ex
  refine ⟨⟨tSl (rSlF K) ta tl th, fun i => c.kk i ▸ pe_slice sl_tupF (pa i) (pl i) (ph i), fun σ H ρ μ s Q hr m h => ?_⟩⟩
  refine sa σ H ρ μ s _ hr m (wp_mono (wp_bind h) (fun v s1 h1 => ?_) fun _ _ q => q)
  intro x H1 μ1 g1 m1 r1
  refine sl σ H1 ρ μ1 s1 _ (hr.mono g1 m) m1 (wp_mono (wp_bind h1) (fun l s2 h2 => ?_) fun _ _ q => q.mono g1)
  intro H2 μ2 g2 m2
  have g12 := g1.trans g2
  refine sh σ H2 ρ μ2 s2 _ (hr.mono g12 m) m2 (wp_mono (wp_bind h2) (fun k s3 h3 => ?_) fun _ _ q => q.mono g12)
  intro H3 μ3 g3 m3
  have g13 := g12.trans g3
  have ra := Rep.mono g3 m2 v x (Rep.mono g2 m1 v x r1)
  split at h3
  · obtain ⟨p, vs, ep, hq, hl, hrr⟩ := rep_tup ra
    refine ⟨p, vs, ep, hq.sqT, fun hw => ?_, fun q u hq' tu => ?_⟩
    · refine h3 _ H3 μ3 g13 m3 ?_
      unfold Rep
      refine ⟨p, vs, rfl, hq, hl, ?_⟩
      have := repCut l k hrr
      have ev : cutV vs l k = vs := by
        unfold cutV
        rw [hw.1, hw.2]; simp
      rw [ev] at this
      exact this
    · have g : Grow μ3 H3 μ3 (upd H3 q u) := m3.new hq'
      refine h3 _ _ μ3 (g13.trans g) (m3.upd_new hq') ?_
      unfold Rep
      exact ⟨q, _, rfl, .of upd_same tu, Nat.le_trans (cutV_length _ _ _) hl, RepAll.mono g m3 _ _ (repCut l k hrr)⟩
  · exact h3.elim
/-- what a new list needs to be handed on -/
theorem fs_new {H H1 : Hp} {μ μ1 : Mu} {s1 : S} {Q : VK} {xs : List Val} {vs : List V} (h : FsP K μ H Q xs s1) (g : Grow μ H μ1 H1) (m : Mem K H1 μ1 s1) (hl : vs.length ≤ sizeLine) (hr : RepAll K H1 μ1 xs vs) : ∀ p, H1 p = none → Q (.ref p) (upd H1 p (.lst vs)) := by
  intro p hp
  have g2 : Grow μ1 H1 (μ1.hide p) (upd H1 p (.lst vs)) := m.newHid hp
  have off := m.off hp
  refine h p vs _ μ1 (g.trans g2) ?_ (g.none hp) off.2 upd_same hl (RepAll.mono g2 m _ _ hr)
  refine ⟨m.shp, m.nd, fun f hf b hb hq => ?_, fun f n b c e1 e2 => ?_, m.bel, fun b hb => ?_⟩
  · rcases hq with e | e
    · exact off.1 f hf (by rw [← e]; exact hb)
    · exact m.sep f hf b hb e
  · have q := m.cel f n b c e1 e2
    cases c with
    | lst ys =>
      obtain ⟨ws, e, hl, hr⟩ := q
      exact ⟨ws, by rw [upd_ne (ne_of_none e hp)]; exact e, hl, RepAll.mono g2 m _ _ hr⟩
    | dct _ _ => exact q.elim
  · rcases hb with e | e
    · rw [e]; exact ⟨vs, upd_same⟩
    · obtain ⟨ws, e2⟩ := m.hd b e
      exact ⟨ws, by rw [upd_ne (ne_of_none e2 hp)]; exact e2⟩
theorem mf_sl {EW : XK} {a : Expr} {lo hi : Option Expr} {ma : Ex} {ml mh : Ox} {p2 pos : Pos} (c : CxF X K) (ha : ME X K EW a ma) (hl : MO X K EW lo ml) (hh : MO X K EW hi mh) : MF X K EW (.Subscript a (.Slice lo hi none p2) pos) (fSl ma ml mh) := by
  obtain ⟨ta, pa, sa⟩ := ha.ex
  obtain ⟨tl, pl, sl⟩ := hl.ex
  obtain ⟨th, ph, sh⟩ := hh.ex
  refine ⟨⟨tSl (rSlL K) ta tl th, fun i => c.kk i ▸ pe_slice sl_list (pa i) (pl i) (ph i), fun σ H ρ μ s Q hr m h => ?_⟩⟩
  refine sa σ H ρ μ s _ hr m (wp_mono (wp_bind h) (fun v s1 h1 => ?_) fun _ _ q => q)
  intro x H1 μ1 g1 m1 r1
  refine sl σ H1 ρ μ1 s1 _ (hr.mono g1 m) m1 (wp_mono (wp_bind h1) (fun l s2 h2 => ?_) fun _ _ q => q.mono g1)
  intro H2 μ2 g2 m2
  have g12 := g1.trans g2
  refine sh σ H2 ρ μ2 s2 _ (hr.mono g12 m) m2 (wp_mono (wp_bind h2) (fun k s3 h3 => ?_) fun _ _ q => q.mono g12)
  intro H3 μ3 g3 m3
  have g13 := g12.trans g3
  have ra := Rep.mono g3 m2 v x (Rep.mono g2 m1 v x r1)
  split at h3
  · rename_i xs exs
    obtain ⟨p, vs, ep, hq, hl, hrr⟩ := rep_asL m3 ra exs
    exact ⟨p, vs, ep, hq, fs_new h3 g13 m3 (Nat.le_trans (cutV_length _ _ _) hl) (repCut l k hrr)⟩
  · exact h3.elim
/-! ### builtins by values -/
def CallS {ι : Type} (X : ι → Cx) (K : PySem.W.Frag) (f : Value) (g : S → List Val → Option Val) : Prop :=
  ∃ r, (∀ i, CallR (X i) f r) ∧ ∀ xs H μ s as v, Mem K H μ s → RepAll K H μ as xs → g s as = some v → ∀ Q : VK, VP K μ H Q v s → r xs H Q
theorem me_callB {EW : XK} {e : Expr} {es : List Expr} {mas : Ax} {pos p : Pos} {x : Str} {id : String} {g : S → List Val → Option Val} (o : CallS X K (.builtin id) g) (hg : ∀ i, Gl (X i) x) (hm : ∀ i, (X i).mg x = none) (hv : bootBuiltins x = some (.builtin id)) (ha : MA X K EW (e :: es) mas)
    (hn : x ≠ "__name__" := by decide) (hd : (x == ("__debug__" : Str)) = false := by decide) (he : ∀ i, starEach (e :: es) (X i).env = (false, eval e (X i).env) :: starEach es (X i).env := by intro _; rfl) (hpl : ∀ i, (backTo pos (starEach es (X i).env)).any (·.1) = false := by intro _; rfl) : ME X K EW (.Call (.Name x p) (e :: es) [] pos) (eCall g mas) := by
  obtain ⟨ta, pa, sa⟩ := ha.ex
  obtain ⟨r, pr, sr⟩ := o
  refine ⟨⟨_, fun i => pe_callB (pr i) (hg i) (hm i) hv (pa i) (hn := hn) (hdb := hd) (he := he i) (hpl := hpl i), fun σ H ρ μ s Q hr m h => ?_⟩⟩
  refine sa σ H ρ μ s _ hr m (wp_mono (wp_bind h) (fun v s1 h1 => ?_) fun _ _ q => q)
  intro x H1 μ1 g1 m1 r1
  obtain ⟨w, e, q⟩ := wp_ofO h1
  exact sr x H1 μ1 s1 v w m1 r1 e Q (q.mono g1)
theorem me_callTy {EW : XK} {e : Expr} {es : List Expr} {mas : Ax} {pos p : Pos} {x : Str} {T : String} {g : S → List Val → Option Val} (o : CallS X K (.type T) g) (hg : ∀ i, Gl (X i) x) (hm : ∀ i, (X i).mg x = none) (hv : bootBuiltins x = some (.type T)) (ha : MA X K EW (e :: es) mas)
    (hn : x ≠ "__name__" := by decide) (hd : (x == ("__debug__" : Str)) = false := by decide) (he : ∀ i, starEach (e :: es) (X i).env = (false, eval e (X i).env) :: starEach es (X i).env := by intro _; rfl) (hpl : ∀ i, (backTo pos (starEach es (X i).env)).any (·.1) = false := by intro _; rfl) : ME X K EW (.Call (.Name x p) (e :: es) [] pos) (eCall g mas) := by
  obtain ⟨ta, pa, sa⟩ := ha.ex
  obtain ⟨r, pr, sr⟩ := o
  refine ⟨⟨_, fun i => pe_callTy (pr i) (hg i) (hm i) hv (pa i) (hn := hn) (hdb := hd) (he := he i) (hpl := hpl i), fun σ H ρ μ s Q hr m h => ?_⟩⟩
  refine sa σ H ρ μ s _ hr m (wp_mono (wp_bind h) (fun v s1 h1 => ?_) fun _ _ q => q)
  intro x H1 μ1 g1 m1 r1
  obtain ⟨w, e, q⟩ := wp_ofO h1
  exact sr x H1 μ1 s1 v w m1 r1 e Q (q.mono g1)
end
end FM

set_option autoImplicit false
/-! builtins and methods by values -/
namespace FM
open PySem PySem.Spec PyProof.Rows L2
section
variable {ι : Type} {X : ι → Cx} {K : PySem.W.Frag} {EW : XK} {a b e : Expr} {es : List Expr} {ma mb : Ex} {mas : Ax} {mf : Fx} {pos p apos cpos : Pos}
theorem all1 {K : PySem.W.Frag} {H : Hp} {μ : Mu} {v : Val} {xs : List V} (h : RepAll K H μ [v] xs) : ∃ x, xs = [x] ∧ Rep K H μ v x := by
  unfold RepAll at h
  obtain ⟨w, ws, e, h1, h2⟩ := h
  unfold RepAll at h2
  exact ⟨w, by rw [e, h2], h1⟩
theorem all2 {K : PySem.W.Frag} {H : Hp} {μ : Mu} {v u : Val} {xs : List V} (h : RepAll K H μ [v, u] xs) : ∃ x y, xs = [x, y] ∧ Rep K H μ v x ∧ Rep K H μ u y := by
  unfold RepAll at h
  obtain ⟨w, ws, e, h1, h2⟩ := h
  obtain ⟨y, e2, h3⟩ := all1 h2
  exact ⟨w, y, by rw [e, e2], h1, h3⟩
theorem LenV_of {K : PySem.W.Frag} {H : Hp} {q : Addr} {vs : List V} (h : SqL K H q vs ∨ SqT K H q vs) : LenV K (.ref q) H vs.length := by
  rcases h with h | h
  · exact .inl ⟨vs, h, rfl⟩
  · exact .inr ⟨vs, h, rfl⟩
theorem cs_len (c : CxF X K) : CallS X K (.builtin "len") bLen := by
  refine ⟨fun xs H Q => ∃ x n, xs = [x] ∧ LenV K x H n ∧ Q (.int n) H, fun i => c.kk i ▸ call_len, fun xs H μ s as v m r e Q q => ?_⟩
  unfold bLen at e
  split at e
  · split at e
    · rename_i z hl
      cases e
      obtain ⟨x, ex, rx⟩ := all1 r
      refine ⟨x, _, ex, ?_, q _ H μ (.refl m) m rep_of_int⟩
      rw [rep_str rx]
      exact ⟨hl, rfl⟩
    · cases e
  · rename_i x _
    obtain ⟨y, ey, ry⟩ := all1 r
    cases ex : asQ s x with
    | none => rw [ex] at e; cases e
    | some ys =>
      rw [ex] at e
      cases e
      obtain ⟨q1, vs, eq, hq, hl, hr⟩ := rep_asQ m ry ex
      refine ⟨y, vs.length, ey, ?_, ?_⟩
      · rw [eq]; exact LenV_of hq
      · rw [hr.length]; exact q _ H μ (.refl m) m rep_of_int
  · cases e
theorem cs_abs : CallS X K (.builtin "abs") bAbs := by
  refine ⟨_, fun _ => call_abs, fun xs H μ s as v m r e Q q => ?_⟩
  unfold bAbs at e
  split at e
  · cases e
    obtain ⟨x, ex, rx⟩ := all1 r
    exact ⟨_, by rw [ex, rep_int rx], q _ H μ (.refl m) m rep_of_int⟩
  · cases e
theorem cs_int : CallS X K (.type "int") bInt := by
  refine ⟨_, fun _ => call_int1, fun xs H μ s as v m r e Q q => ?_⟩
  unfold bInt at e
  split at e
  · cases e
    obtain ⟨x, ex, rx⟩ := all1 r
    exact .inl ⟨_, by rw [ex, rep_int rx], q _ H μ (.refl m) m rep_of_int⟩
  · cases e
    obtain ⟨x, ex, rx⟩ := all1 r
    exact .inr ⟨_, by rw [ex, rep_bl rx], q _ H μ (.refl m) m rep_of_int⟩
  · cases e
theorem cs_tuple (c : CxF X K) : CallS X K (.type "tuple") bTuple := by
  refine ⟨rTupOf K, fun i => c.kk i ▸ call_tupF, fun xs H μ s as v m r e Q q => ?_⟩
  unfold bTuple at e
  split at e
  · rename_i x
    obtain ⟨y, ey, ry⟩ := all1 r
    cases x with
    | tup ys =>
      cases e
      obtain ⟨q1, vs, eq, hq, hl, hr⟩ := rep_tup ry
      refine ⟨q1, vs, by rw [ey, eq], .inr ⟨hq.sqT, q _ H μ (.refl m) m ?_⟩⟩
      unfold Rep
      exact ⟨q1, vs, rfl, hq, hl, hr⟩
    | _ =>
      simp only [asQ] at e
      cases ex : asL s _ with
      | none => rw [ex] at e; cases e
      | some ys =>
        rw [ex] at e
        cases e
        obtain ⟨q1, vs, eq, hq, hl, hr⟩ := rep_asL m ry ex
        refine ⟨q1, vs, by rw [ey, eq], .inl ⟨hq, fun l u hl' tu => ?_⟩⟩
        have g : Grow μ H μ (upd H l u) := m.new hl'
        refine q _ _ μ g (m.upd_new hl') ?_
        unfold Rep
        exact ⟨l, vs, rfl, .of upd_same tu, hl, RepAll.mono g m _ _ hr⟩
  · cases e
theorem cs_sum (c : CxF X K) : CallS X K (.builtin "sum") bSum := by
  refine ⟨rSum K, fun i => c.kk i ▸ cr_sum (c.calm i), fun xs H μ s as v m r e Q q => ?_⟩
  unfold bSum at e
  split at e
  · rename_i x
    obtain ⟨y, ey, ry⟩ := all1 r
    cases ex : asL s x with
    | none => rw [ex] at e; cases e
    | some ys =>
      rw [ex] at e
      cases en : intsOf ys with
      | none => simp only [Option.bind_some, en] at e; cases e
      | some ns =>
        simp only [Option.bind_some, en] at e
        cases e
        obtain ⟨q1, vs, eq, hq, hl, hr⟩ := rep_asL m ry ex
        obtain ⟨ev, _⟩ := intsOf_rep hr en
        exact ⟨q1, ns, by rw [ey, eq], by rw [← ev]; exact hq, q _ H μ (.refl m) m rep_of_int⟩
  · cases e
theorem foldl_max : ∀ (ns : List Int) (k : Int), (k ≤ ns.foldl max k) ∧ (∀ y ∈ ns, y ≤ ns.foldl max k) ∧ (ns.foldl max k = k ∨ ns.foldl max k ∈ ns)
  | [], k => ⟨Int.le_refl _, by simp, .inl rfl⟩
  | n :: ns, k => by
    obtain ⟨h1, h2, h3⟩ := foldl_max ns (max k n)
    simp only [List.foldl_cons]
    refine ⟨by omega, fun y hy => ?_, ?_⟩
    · rcases List.mem_cons.mp hy with rfl | hy
      · omega
      · exact h2 y hy
    · rcases h3 with h | h
      · rw [h]
        by_cases hk : k ≤ n
        · right; rw [Int.max_eq_right hk]; exact List.mem_cons_self
        · left; rw [Int.max_eq_left (by omega)]
      · right; exact List.mem_cons_of_mem _ h
theorem cs_max (c : CxF X K) : CallS X K (.builtin "max") bMax := by
  refine ⟨rMax K, fun i => c.kk i ▸ cr_max (c.calm i), fun xs H μ s as v m r e Q q => ?_⟩
  unfold bMax at e
  split at e
  · rename_i x
    obtain ⟨y, ey, ry⟩ := all1 r
    cases ex : asL s x with
    | none => rw [ex] at e; cases e
    | some ys =>
      rw [ex] at e
      cases en : intsOf ys with
      | none => simp only [Option.bind_some, en] at e; cases e
      | some ns =>
        simp only [Option.bind_some, en] at e
        cases ns with
        | nil => cases e
        | cons n ns =>
          cases e
          obtain ⟨q1, vs, eq, hq, hl, hr⟩ := rep_asL m ry ex
          obtain ⟨ev, _⟩ := intsOf_rep hr en
          refine ⟨q1, n :: ns, by rw [ey, eq], by rw [← ev]; exact hq, by simp, fun k hk hle => ?_⟩
          obtain ⟨h1, h2, h3⟩ := foldl_max ns n
          have ek : k = ns.foldl max n := by
            have a1 : ns.foldl max n ≤ k := by
              rcases h3 with h | h
              · rw [h]; exact hle n List.mem_cons_self
              · exact hle _ (List.mem_cons_of_mem _ h)
            have a2 : k ≤ ns.foldl max n := by
              rcases List.mem_cons.mp hk with h | h
              · rw [h]; exact h1
              · exact h2 k h
            omega
          rw [ek]
          exact q _ H μ (.refl m) m rep_of_int
  · cases e
theorem cs_all (c : CxF X K) : CallS X K (.builtin "all") bAll := by
  refine ⟨rAll K, fun i => c.kk i ▸ cr_all (c.calm i), fun xs H μ s as v m r e Q q => ?_⟩
  unfold bAll at e
  split at e
  · rename_i x
    obtain ⟨y, ey, ry⟩ := all1 r
    cases ex : asL s x with
    | none => rw [ex] at e; cases e
    | some ys =>
      rw [ex] at e
      cases en : boolsOf ys with
      | none => simp only [Option.bind_some, en] at e; cases e
      | some ns =>
        simp only [Option.bind_some, en] at e
        cases e
        obtain ⟨q1, vs, eq, hq, hl, hr⟩ := rep_asL m ry ex
        exact ⟨q1, ns, by rw [ey, eq], by rw [← boolsOf_rep hr en]; exact hq, q _ H μ (.refl m) m rep_of_bl⟩
  · cases e
theorem cs_any (c : CxF X K) : CallS X K (.builtin "any") bAny := by
  refine ⟨rAny K, fun i => c.kk i ▸ cr_any (c.calm i), fun xs H μ s as v m r e Q q => ?_⟩
  unfold bAny at e
  split at e
  · rename_i x
    obtain ⟨y, ey, ry⟩ := all1 r
    cases ex : asL s x with
    | none => rw [ex] at e; cases e
    | some ys =>
      rw [ex] at e
      cases en : boolsOf ys with
      | none => simp only [Option.bind_some, en] at e; cases e
      | some ns =>
        simp only [Option.bind_some, en] at e
        cases e
        obtain ⟨q1, vs, eq, hq, hl, hr⟩ := rep_asL m ry ex
        exact ⟨q1, ns, by rw [ey, eq], by rw [← boolsOf_rep hr en]; exact hq, q _ H μ (.refl m) m rep_of_bl⟩
  · cases e
/-! ### repr -/
def rReprC (K : PySem.W.Frag) : List V → Hp → VK → Prop := fun xs H Q => ∃ x d, xs = [x] ∧ Dp K H x d ∧ d.hasDict = false ∧ d.showable = true ∧ d.shown.length ≤ sizeLine ∧ d.depth ≤ 64 ∧ Q (.str d.shown) H
theorem canLay_noDict : ∀ d : PyData, d.canLay0 = true → d.hasDict = false := by
  intro d
  refine PyData.rec (motive_1 := fun d => d.canLay0 = true → d.hasDict = false) (motive_2 := fun ds => PyData.canLayAll0 ds = true → PyData.hasDictAll ds = false) (motive_3 := fun _ => True) (motive_4 := fun _ => True) ?_ ?_ ?_ ?_ ?_ ?_ ?_ ?_ ?_ ?_ ?_ ?_ d <;> intros <;> simp_all [PyData.canLay0, PyData.canLayAll0, PyData.hasDict, PyData.hasDictAll]
end
end FM

set_option autoImplicit false
/-! defs: the promise of a mirror, a call, a body -/
namespace FM
open PySem PySem.Spec PyProof.Rows L2

/-- a def keeps a promise wherever there is room and no repr is under way -/
structure FnG (P : Program) (w : World) (K : PySem.W.Frag) (mg : PySem.Str → Option Value) (base : Heap) (CX : CXT) (k : Nat) (f : Addr) (fd : FuncData) (ps : List PySem.Str) (sp : Sp) : Prop where
  len : ∀ vs H Q E, sp vs H Q E → vs.length = ps.length
  go : ∀ (A : Around) (out : List PySem.Env) (t : Shared) (H : Hp) (args : Args) (us : List Value) (vs : List V) (Q : VK) (E : XK),
    Room k A → A.guards = some [] → Env0 P w K mg base A out t H → BindsTo t fd args (ps.zip us) → Vals vs us → sp vs H Q E →
    codeAny (model P w) A (.call (.ref f) args) (CR CX out P w H t Q E) t
section
variable {P : Program} {w : World} {K : PySem.W.Frag} {mg : PySem.Str → Option Value} {base : Heap} {CX : CXT} {k : Nat} {f : Addr} {fd : FuncData} {ps : List PySem.Str} {sp : Sp}
theorem FnG.up {j : Nat} (F : FnG P w K mg base CX j f fd ps sp) (h : j ≤ k) : FnG P w K mg base CX k f fd ps sp :=
  ⟨F.len, fun A out t H args us vs Q E r g => F.go A out t H args us vs Q E (r.mono h) g⟩
end

/-- what a mirror promises -/
def RtP (K : PySem.W.Frag) (μ : Mu) (H : Hp) (Q : VK) : Ret → S → Prop := fun r s' => match r with
  | .val v => ∀ x H', Grow μ H μ H' → Mem K H' μ s' → Rep K H' μ v x → Q x H'
  | .cell (.lst xs) => ∀ (a : Addr) (vs : List V) (H' : Hp), Grow μ H (μ.hide a) H' → Mem K H' (μ.hide a) s' → H a = none → ¬ μ.hid a → H' a = some (.lst vs) → vs.length ≤ sizeLine → RepAll K H' (μ.hide a) xs vs → Q (.ref a) H'
  | .cell _ => False
def spOf (K : PySem.W.Frag) (np : Nat) (m : Fn) : Sp := fun vs H Q E => vs.length = np ∧ ∃ μ s args, Mem K H μ s ∧ RepAll K H μ args vs ∧ (m args s).wp (RtP K μ H Q) (XP K μ H E)

section
variable {X : Cx} {CX : CXT} {k : Nat} {f : Addr} {fd : FuncData} {ps : List PySem.Str} {sp : Sp} {E : XK} {x : PySem.Str} {p pos : Pos} {e : Expr} {es : List Expr} {t : TA}
theorem g_run {pins : List (Addr × Obj)} {σ : L2.St} {H : Hp} {s : Shared} {Q : VK} {us : List Value} {vs : List V} (F : FnG X.prog X.w X.K X.mg X.base CX k f fd ps sp) (hr : Room k X.A) (hgd : X.A.guards = some []) (hb : Binds X.K fd ps []) (hx : Passes CX X E)
    (I : Inv X pins σ H s) (r : Vals vs us) (h : sp vs H Q E) : wpAny (model X.prog X.w) X.A (call (.ref f) us) (EP X pins σ Q) X.xe s := by
  have hl : (us ++ []).length = ps.length := by rw [List.append_nil, ← r.length]; exact F.len _ _ _ _ h
  have hbind := hb s us I.kIn hl
  rw [List.append_nil] at hbind
  refine wpAny_call (codeAny_mono (F.go X.A X.stack s H ⟨us, []⟩ us vs Q E hr hgd I.env0 hbind r h) ?_)
  intro res s' hq
  match res, hq with
  | .error e, hq => exact hx pins σ H s e s' I hq
  | .ok (.ret u), hq => exact I.after hq
  | .ok .next, hq => exact hq.elim
  | .ok .brk, hq => exact hq.elim
  | .ok .cont, hq => exact hq.elim
theorem pe_callM (F : FnG X.prog X.w X.K X.mg X.base CX k f fd ps sp) (hr : Room k X.A) (hgd : X.A.guards = some []) (hg : Gl X x) (hm : X.mg x = some (.ref f)) (hk : PySem.W.keepIn X.K (.ref f) = true) (hb : Binds X.K fd ps []) (hx : Passes CX X E)
    (ha : PA X (e :: es) t) (hdb : (x == ("__debug__" : PySem.Str)) = false) (he : starEach (e :: es) X.env = (false, eval e X.env) :: starEach es X.env) (hpl : (backTo pos (starEach es X.env)).any (·.1) = false) :
    PE X (.Call (.Name x p) (e :: es) [] pos) (tCall sp [] E t) := by
  constructor
  intro pins s σ H Q I h
  refine wpAny_Call_Name_kw (ld_glob I hg hm ?_ hdb)
  refine PySem.W.callWith_K (h₀ := X.base) I.ok.mod.kin hk (thn (ha.run pos pins s σ H _ I h) ?_) he hpl
  intro us s1 hq
  obtain ⟨vs, H1, I1, r, q⟩ := hq
  refine ⟨I1.kIn, g_run F hr hgd hb hx I1 r ?_⟩
  have q : sp (vs ++ []) H1 Q E := q
  rw [List.append_nil] at q
  exact q
end

/-- the facts of a context -/
structure CxG {ι : Type} (X : ι → Cx) (K : PySem.W.Frag) (k : Nat) : Prop extends CxF X K where
  gd : ∀ i, (X i).A.guards = some []
  rm : ∀ i, Room k (X i).A

section
variable {ι : Type} {X : ι → Cx} {K : PySem.W.Frag} {EW : XK} {CX : CXT} {k : Nat} {f : Addr} {fd : FuncData} {ps : List PySem.Str} {x : PySem.Str} {p pos : Pos} {e : Expr} {es : List Expr} {np : Nat} {fn : Fn} {mas : Ax}
theorem rt_val {μ : Mu} {H H1 : Hp} {μ1 : Mu} {Q : VK} {v : Val} {s' : S} (g : Grow μ H μ1 H1) (h : VP K μ H Q v s') : RtP K μ1 H1 Q (.val v) s' :=
  fun x H' g' m r => h x H' μ1 (g.trans g') m r
/-- f(..), whose new list is dead at once -/
theorem me_fn (F : ∀ i, FnG (X i).prog (X i).w (X i).K (X i).mg (X i).base CX k f fd ps (spOf K np fn)) (c : CxG X K k) (hg : ∀ i, Gl (X i) x) (hm : ∀ i, (X i).mg x = some (.ref f)) (hk : ∀ i, PySem.W.keepIn (X i).K (.ref f) = true) (hb : ∀ i, Binds (X i).K fd ps []) (hx : ∀ i, Passes CX (X i) EW)
    (ha : MA X K EW (e :: es) mas) (hn : (e :: es).length = np := by rfl) (hdb : (x == ("__debug__" : PySem.Str)) = false := by decide) (he : ∀ i, starEach (e :: es) (X i).env = (false, eval e (X i).env) :: starEach es (X i).env := by intro _; rfl) (hpl : ∀ i, (backTo pos (starEach es (X i).env)).any (·.1) = false := by intro _; rfl) :
    ME X K EW (.Call (.Name x p) (e :: es) [] pos) (eFn fn mas) := by
  obtain ⟨ta, pa, sa⟩ := ha.ex
  refine ⟨⟨_, fun i => pe_callM (F i) (c.rm i) (c.gd i) (hg i) (hm i) (hk i) (hb i) (hx i) (pa i) hdb (he i) (hpl i), fun σ H ρ μ s Q hr m h => ?_⟩⟩
  refine sa σ H ρ μ s _ hr m (wp_mono (wp_len (wp_bind h)) (fun vs s1 h1 => ?_) fun _ _ q => q)
  obtain ⟨el, h1⟩ := h1
  intro xs H1 μ1 g1 m1 r1
  rw [List.append_nil]
  refine ⟨by rw [r1.length, ha.len _ _ _ _ el]; exact hn, μ1, s1, vs, m1, r1, wp_mono (wp_bind h1) (fun r s2 h2 => ?_) fun _ _ q => q.mono g1⟩
  match r, h2 with
  | .val v, h2 => exact rt_val g1 h2
  | .cell (.lst ys), h2 =>
    intro a vs H' g' m' ha hh e hl rr
    have off : Off μ1 a := m'.offHid hh
    refine h2 (.ref a) H' μ1 ((g1.trans (g'.unhide (m1.off ha)))) m'.unhide ?_
    unfold Rep
    exact ⟨a, vs, rfl, e, off, hl, rr.unhide⟩
  | .cell (.dct ks vs), h2 => exact False.elim h2
/-- f(..), whose new list lives on -/
theorem me_fnL (F : ∀ i, FnG (X i).prog (X i).w (X i).K (X i).mg (X i).base CX k f fd ps (spOf K np fn)) (c : CxG X K k) (hg : ∀ i, Gl (X i) x) (hm : ∀ i, (X i).mg x = some (.ref f)) (hk : ∀ i, PySem.W.keepIn (X i).K (.ref f) = true) (hb : ∀ i, Binds (X i).K fd ps []) (hx : ∀ i, Passes CX (X i) EW)
    (ha : MA X K EW (e :: es) mas) (hn : (e :: es).length = np := by rfl) (hdb : (x == ("__debug__" : PySem.Str)) = false := by decide) (he : ∀ i, starEach (e :: es) (X i).env = (false, eval e (X i).env) :: starEach es (X i).env := by intro _; rfl) (hpl : ∀ i, (backTo pos (starEach es (X i).env)).any (·.1) = false := by intro _; rfl) :
    ME X K EW (.Call (.Name x p) (e :: es) [] pos) (eFnL fn mas) := by
  obtain ⟨ta, pa, sa⟩ := ha.ex
  refine ⟨⟨_, fun i => pe_callM (F i) (c.rm i) (c.gd i) (hg i) (hm i) (hk i) (hb i) (hx i) (pa i) hdb (he i) (hpl i), fun σ H ρ μ s Q hr m h => ?_⟩⟩
  refine sa σ H ρ μ s _ hr m (wp_mono (wp_len (wp_bind h)) (fun vs s1 h1 => ?_) fun _ _ q => q)
  obtain ⟨el, h1⟩ := h1
  intro xs H1 μ1 g1 m1 r1
  rw [List.append_nil]
  refine ⟨by rw [r1.length, ha.len _ _ _ _ el]; exact hn, μ1, s1, vs, m1, r1, wp_mono (wp_bind h1) (fun r s2 h2 => ?_) fun _ _ q => q.mono g1⟩
  match r, h2 with
  | .val v, h2 => exact rt_val g1 h2
  | .cell (.lst ys), h2 =>
    intro a vs H' g' m' ha hh e hl rr
    cases s2 with
    | nil => exact False.elim h2
    | cons fr s2 =>
      have bl : belowAll (s2.length + 1) ys = true := by
        have q := repAll_below ys vs rr
        rw [m'.len] at q
        exact q
      obtain ⟨m2, r2⟩ := m'.comes e hl rr bl hh
      exact h2 (.ref a) H' (μ1.ext a) (g1.trans (g'.comes ha (m1.off ha))) m2 r2
  | .cell (.dct ks vs), h2 => exact False.elim h2
end
end FM

set_option autoImplicit false
/-! statements, targets, loops, comprehensions -/
namespace FM
open PySem PySem.Spec PyProof.Rows L2

def F.wp (r : F) (n : FM.Env → S → Prop) (t : Val → S → Prop) (b c : FM.Env → S → Prop) (E : Exn → S → Prop) : Prop := match r with
  | .nx ρ s => n ρ s
  | .rt v s => t v s
  | .bk ρ s => b ρ s
  | .ct ρ s => c ρ s
  | .ex e s => E e s
  | .no => False
theorem wp_seq {α : Type} {r : R α} {f : α → S → F} {n : FM.Env → S → Prop} {t : Val → S → Prop} {b c : FM.Env → S → Prop} {E : Exn → S → Prop} (h : (r.seq f).wp n t b c E) : r.wp (fun a s => (f a s).wp n t b c E) E := by
  cases r <;> exact h
theorem fwp_mono {r : F} {n n' : FM.Env → S → Prop} {t t' : Val → S → Prop} {b b' c c' : FM.Env → S → Prop} {E E' : Exn → S → Prop} (h : r.wp n t b c E) (h1 : ∀ ρ s, n ρ s → n' ρ s) (h2 : ∀ v s, t v s → t' v s) (h3 : ∀ ρ s, b ρ s → b' ρ s) (h4 : ∀ ρ s, c ρ s → c' ρ s) (h5 : ∀ e s, E e s → E' e s) : r.wp n' t' b' c' E' := by
  cases r with
  | nx ρ s => exact h1 ρ s h
  | rt v s => exact h2 v s h
  | bk ρ s => exact h3 ρ s h
  | ct ρ s => exact h4 ρ s h
  | ex e s => exact h5 e s h
  | no => exact h
/-- slots and memory behind a statement -/
def NP (K : PySem.W.Frag) (μ : Mu) (H : Hp) (Q : L2.St → Hp → Prop) : FM.Env → S → Prop := fun ρ s' =>
  ∀ σ H' μ', Grow μ H μ' H' → Mem K H' μ' s' → SR K H' μ' ρ σ → Q σ H'
theorem NP.mono {K : PySem.W.Frag} {μ μ1 : Mu} {H H1 : Hp} {Q : L2.St → Hp → Prop} {ρ : FM.Env} {s' : S} (g : Grow μ H μ1 H1) (h : NP K μ H Q ρ s') : NP K μ1 H1 Q ρ s' := fun σ H' μ' g' m r => h σ H' μ' (g.trans g') m r
def SW (K : PySem.W.Frag) (μ : Mu) (H : Hp) (D : Ends) (EW : XK) (r : F) : Prop :=
  r.wp (NP K μ H D.nx) (VP K μ H D.rt) (NP K μ H D.bk) (NP K μ H D.ct) (XP K μ H EW)
theorem SW.mono {K : PySem.W.Frag} {μ μ1 : Mu} {H H1 : Hp} {D : Ends} {EW : XK} {r : F} (g : Grow μ H μ1 H1) (h : SW K μ H D EW r) : SW K μ1 H1 D EW r :=
  fwp_mono h (fun _ _ q => q.mono g) (fun _ _ q => q.mono g) (fun _ _ q => q.mono g) (fun _ _ q => q.mono g) fun _ _ q => q.mono g
structure MS {ι : Type} (X : ι → Cx) (K : PySem.W.Frag) (EW : XK) (st : Stmt) (m : Sx) : Prop where
  ex : ∃ t, (∀ i, PS (X i) st t) ∧ ∀ σ H ρ μ s D, SR K H μ ρ σ → Mem K H μ s → SW K μ H D EW (m ρ s) → t D σ H
structure MSs {ι : Type} (X : ι → Cx) (K : PySem.W.Frag) (EW : XK) (st : List Stmt) (m : Sx) : Prop where
  ex : ∃ t, (∀ i, PSs (X i) st t) ∧ ∀ σ H ρ μ s D, SR K H μ ρ σ → Mem K H μ s → SW K μ H D EW (m ρ s) → t D σ H
/-- the slots agree but at some places -/
def Agr (ks : List Nat) (σ σ' : L2.St) : Prop := σ'.length = σ.length ∧ ∀ j : Nat, j ∉ ks → σ'[j]? = σ[j]?
/-- a value, or a pair that a walk hands out (whose object is not told) -/
def RB (K : PySem.W.Frag) (H : Hp) (μ : Mu) (w : Bool) (v : Val) (x : V) : Prop := match w with
  | false => Rep K H μ v x
  | true => ∃ ys a vs, v = .tup ys ∧ x = .ref a ∧ SqT K H a vs ∧ RepAll K H μ ys vs
structure MG {ι : Type} (X : ι → Cx) (K : PySem.W.Frag) (tg : Expr) (m : Gx) (ks : List Nat) (w : Bool) : Prop where
  ex : ∃ t, (∀ i, PG (X i) tg t) ∧ ∀ σ H ρ μ s x v ρ' Q, SR K H μ ρ σ → Mem K H μ s → RB K H μ w v x → m v ρ = some ρ' → (∀ σ', SR K H μ ρ' σ' → Agr ks σ σ' → Q σ' H) → t x σ H Q
structure MGs {ι : Type} (X : ι → Cx) (K : PySem.W.Frag) (tgs : List Expr) (m : List Gx) (ks : List Nat) : Prop where
  ex : ∃ t, (∀ i, PGs (X i) tgs t) ∧ ∀ σ H ρ μ s xs vs ρ' Q, SR K H μ ρ σ → Mem K H μ s → RepAll K H μ vs xs → gAll m vs ρ = some ρ' → (∀ σ', SR K H μ ρ' σ' → Agr ks σ σ' → Q σ' H) → t xs σ H Q
section
variable {ι : Type} {X : ι → Cx} {K : PySem.W.Frag} {EW : XK} {st : Stmt} {rest : List Stmt} {a b e o i c : Expr} {es : List Expr} {ma mb me mo mi : Ex} {mt : Tx} {ms mr : Sx} {mg : Gx} {mgs : List Gx} {ks ls : List Nat} {w : Bool} {pos : Pos}
theorem ms_nil : MSs X K EW [] sNil := ⟨⟨_, fun _ => pss_nil, fun σ H ρ μ s D hr m h => h σ H μ (.refl m) m hr⟩⟩
theorem ms_cons (h1 : MS X K EW st ms) (h2 : MSs X K EW rest mr) : MSs X K EW (st :: rest) (sCons ms mr) := by
  obtain ⟨ta, pa, sa⟩ := h1.ex
  obtain ⟨tb, pb, sb⟩ := h2.ex
  refine ⟨⟨_, fun i => pss_cons (pa i) (pb i), fun σ H ρ μ s D hr m h => ?_⟩⟩
  refine sa σ H ρ μ s { D with nx := tb D } hr m ?_
  have h : SW K μ H D EW ((ms ρ s).then mr) := h
  unfold SW at h ⊢
  cases e : ms ρ s with
  | nx ρ1 s1 =>
    rw [e] at h
    intro σ' H' μ' g m' r'
    exact sb σ' H' ρ1 μ' s1 D r' m' (SW.mono g h)
  | rt v s1 => rw [e] at h; exact h
  | bk ρ1 s1 => rw [e] at h; exact h
  | ct ρ1 s1 => rw [e] at h; exact h
  | ex e1 s1 => rw [e] at h; exact h
  | no => rw [e] at h; exact h
theorem ms_pass : MS X K EW (.Pass pos) sPass := ⟨⟨_, fun _ => ps_pass, fun σ H ρ μ s D hr m h => h σ H μ (.refl m) m hr⟩⟩
theorem ms_brk : MS X K EW (.Break pos) sBrk := ⟨⟨_, fun _ => ps_break, fun σ H ρ μ s D hr m h => h σ H μ (.refl m) m hr⟩⟩
theorem ms_cnt : MS X K EW (.Continue pos) sCnt := ⟨⟨_, fun _ => ps_continue, fun σ H ρ μ s D hr m h => h σ H μ (.refl m) m hr⟩⟩
theorem ms_expr (he : ME X K EW e me) (hs : ∀ i, swapsWith e none pos.line (X i).env = Pure.pure false := by intro _; rfl) : MS X K EW (.Expr e pos) (sExpr me) := by
  obtain ⟨ta, pa, sa⟩ := he.ex
  refine ⟨⟨_, fun i => ps_expr (pa i) (hs i), fun σ H ρ μ s D hr m h => ?_⟩⟩
  refine sa σ H ρ μ s _ hr m (wp_mono (wp_seq h) (fun v s1 h1 => ?_) fun _ _ q => q)
  intro x H1 μ1 g1 m1 r1
  exact h1 σ H1 μ1 g1 m1 (hr.mono g1 m)
theorem ms_ret (he : ME X K EW e me) : MS X K EW (.Return (some e) pos) (sRet me) := by
  obtain ⟨ta, pa, sa⟩ := he.ex
  refine ⟨⟨_, fun i => ps_ret (pa i), fun σ H ρ μ s D hr m h => ?_⟩⟩
  exact sa σ H ρ μ s _ hr m (wp_mono (wp_seq h) (fun v s1 h1 => h1) fun _ _ q => q)
theorem ms_if {sa sb : List Stmt} {m1 m2 : Sx} (hc : MT X K EW c mt) (h1 : MSs X K EW sa m1) (h2 : MSs X K EW sb m2) : MS X K EW (.If c sa sb pos) (sIf mt m1 m2) := by
  obtain ⟨tc, pc, sc⟩ := hc.ex
  obtain ⟨ta, pa, s1⟩ := h1.ex
  obtain ⟨tb, pb, s2⟩ := h2.ex
  refine ⟨⟨_, fun i => ps_if (pc i) (pa i) (pb i), fun σ H ρ μ s D hr m h => ?_⟩⟩
  refine sc σ H ρ μ s _ hr m (wp_mono (wp_seq h) (fun v s1' h1 => ?_) fun _ _ q => q)
  intro H1 μ1 g1 m1
  cases v with
  | true =>
    rw [if_pos rfl] at h1 ⊢
    exact s1 σ H1 ρ μ1 s1' D (hr.mono g1 m) m1 (SW.mono g1 h1)
  | false =>
    rw [if_neg Bool.false_ne_true] at h1 ⊢
    exact s2 σ H1 ρ μ1 s1' D (hr.mono g1 m) m1 (SW.mono g1 h1)
/-- targets -/
theorem mg_name {k : Nat} {x : PySem.Str} (hN : ∀ i, (X i).N.Nodup) (hi : ∀ i, (X i).N[k]? = some x) (hx : ∀ i, Loc (X i).env.scope x) (hf : ∀ i, (X i).fn x = true ∨ (X i).env.scope.names.lookup x = some .local := by first | exact fun _ => .inl rfl | exact fun _ => .inr rfl) : MG X K (.Name x pos) (FM.gName k) [k] false := by
  refine ⟨⟨_, fun i => pg_name (hN i) (hi i) (hx i) (hf i), fun σ H ρ μ s x v ρ' Q hr m r e q => ?_⟩⟩
  cases e
  exact q _ (hr.set k r) ⟨by simp, fun j hj => List.getElem?_set_ne (fun e => hj (by simp [e]))⟩
theorem mg_nil : MGs X K [] [] [] := by
  refine ⟨⟨_, fun _ => pgs_nil, fun σ H ρ μ s xs vs ρ' Q hr m r e q => ?_⟩⟩
  cases vs with
  | nil =>
    cases e
    unfold RepAll at r
    exact ⟨r, q σ hr ⟨rfl, fun _ _ => rfl⟩⟩
  | cons v vs => cases e
theorem mg_cons (h1 : MG X K e mg ks false) (h2 : MGs X K es mgs ls) (hs : ∀ i, (assignEach (e :: es) (X i).env).map (·.2) = assign e (X i).env :: (assignEach es (X i).env).map (·.2) := by intro _; rfl) : MGs X K (e :: es) (mg :: mgs) (ks ++ ls) := by
  obtain ⟨ta, pa, sa⟩ := h1.ex
  obtain ⟨tb, pb, sb⟩ := h2.ex
  refine ⟨⟨_, fun i => pgs_cons (pa i) (pb i) (hs i), fun σ H ρ μ s xs vs ρ' Q hr m r e q => ?_⟩⟩
  cases vs with
  | nil => cases e
  | cons v vs =>
    unfold RepAll at r
    obtain ⟨w', ws, ew, r1, r2⟩ := r
    unfold gAll at e
    split at e
    · rename_i ρ1 e1
      refine ⟨w', ws, ew, sa σ H ρ μ s w' v ρ1 _ hr m r1 e1 fun σ1 hr1 a1 => ?_⟩
      exact sb σ1 H ρ1 μ s ws vs ρ' Q hr1 m r2 e fun σ2 hr2 a2 => q σ2 hr2 ⟨a2.1.trans a1.1, fun j hj => (a2.2 j fun h => hj (List.mem_append_right _ h)).trans (a1.2 j fun h => hj (List.mem_append_left _ h))⟩
    · cases e
theorem gAll_len : ∀ {gs : List Gx} {vs : List Val} {ρ ρ' : FM.Env}, gAll gs vs ρ = some ρ' → vs.length = gs.length
  | [], [], _, _, _ => rfl
  | g :: gs, v :: vs, ρ, ρ', h => by
    unfold gAll at h
    split at h
    · simp [gAll_len h]
    · cases h
  | [], _ :: _, _, _, h => by cases h
  | _ :: _, [], _, _, h => by cases h
theorem mg_tup {k n : Nat} (c : CxF X K) (h : MGs X K es mgs ks) (hn : ∀ i, (assignEach es (X i).env).length = n := by intro _; rfl) (hst : ∀ i, (assignEach es (X i).env).findIdx? (·.1) = none := by intro _; rfl) (hm : mgs.length = n := by rfl) : MG X K (.Tuple es k pos) (FM.gTup mgs) ks w := by
  obtain ⟨ta, pa, sa⟩ := h.ex
  refine ⟨⟨L2.gTup K n ta, fun i => c.kk i ▸ pg_tup (c.calm i) (pa i) (hn i) (hst i), fun σ H ρ μ s x v ρ' Q hr m r e q => ?_⟩⟩
  have key : ∀ ys a vs, v = .tup ys → x = .ref a → SqT K H a vs → RepAll K H μ ys vs → L2.gTup K n ta x σ H Q := by
    intro ys p ws ev ep hq hrr
    subst ev
    have e : gAll mgs ys ρ = some ρ' := e
    exact ⟨p, ws, ep, hq, by rw [hrr.length, gAll_len e, hm], sa σ H ρ μ s ws ys ρ' Q hr m hrr e q⟩
  cases w with
  | true =>
    obtain ⟨ys, p, ws, ev, ep, hq, hrr⟩ := r
    exact key ys p ws ev ep hq hrr
  | false =>
    have r : Rep K H μ v x := r
    cases v with
    | tup xs =>
      obtain ⟨p, ws, ep, hq, hl, hrr⟩ := rep_tup r
      exact key xs p ws rfl ep hq.sqT hrr
    | _ => cases e
theorem ms_asg {tg : Expr} (he : ME X K EW e me) (hg : MG X K tg mg ks false) (hs : ∀ i, swapsWithSole [tg] e pos.line (X i).env = Pure.pure false := by intro _; rfl) (hw : ∀ i, swappedStores [tg] e (X i).env = Pure.pure none := by intro _; rfl)
    (h1 : ∀ i, (assignEach [tg] (X i).env).map (·.2) = [assign tg (X i).env] := by intro _; rfl) : MS X K EW (.Assign [tg] e pos) (sAsg me mg) := by
  obtain ⟨ta, pa, sa⟩ := he.ex
  obtain ⟨tb, pb, sb⟩ := hg.ex
  refine ⟨⟨_, fun i => ps_asg (pa i) (pb i) (hs i) (hw i) (h1 i), fun σ H ρ μ s D hr m h => ?_⟩⟩
  refine sa σ H ρ μ s _ hr m (wp_mono (wp_seq h) (fun v s1 h1 => ?_) fun _ _ q => q)
  intro x H1 μ1 g1 m1 r1
  split at h1
  · rename_i ρ1 e1
    exact sb σ H1 ρ μ1 s1 x v ρ1 _ (hr.mono g1 m) m1 r1 e1 fun σ' hr' _ => h1 σ' H1 μ1 g1 m1 hr'
  · exact False.elim h1
/-- name = value -/
theorem ms_set {k : Nat} {x : PySem.Str} {pos' : Pos} (hN : ∀ i, (X i).N.Nodup) (hi : ∀ i, (X i).N[k]? = some x) (hx : ∀ i, Loc (X i).env.scope x) (he : ME X K EW e me) (hs : ∀ i, swapsWith e (some (.Name x pos')) pos.line (X i).env = Pure.pure false := by intro _; rfl) (hf : ∀ i, (X i).fn x = true ∨ (X i).env.scope.names.lookup x = some .local := by first | exact fun _ => .inl rfl | exact fun _ => .inr rfl) : MS X K EW (.Assign [.Name x pos'] e pos) (sAsg me (FM.gName k)) := by
  obtain ⟨ta, pa, sa⟩ := he.ex
  refine ⟨⟨_, fun i => ps_set (hN i) (hi i) (hx i) (pa i) (hs i) (hf i), fun σ H ρ μ s D hr m h => ?_⟩⟩
  refine sa σ H ρ μ s _ hr m (wp_mono (wp_seq h) (fun v s1 h1 => ?_) fun _ _ q => q)
  intro x H1 μ1 g1 m1 r1
  exact h1 _ H1 μ1 g1 m1 ((hr.mono g1 m).set k r1)
/-- a, b = x, y -/
theorem ms_par {k l : Nat} {x y : PySem.Str} {px py pt : Pos} {kt k2 : Nat} {pt2 : Pos} (hc : ∀ i, (X i).calm = true) (hN : ∀ i, (X i).N.Nodup) (hi : ∀ i, (X i).N[k]? = some x) (hj : ∀ i, (X i).N[l]? = some y) (hij : k ≠ l)
    (hx : ∀ i, (X i).env.scope.names.lookup x = some .local) (hy : ∀ i, (X i).env.scope.names.lookup y = some .local) (ha : ME X K EW a ma) (hb : ME X K EW b mb)
    (hw : ∀ i, swappedStores [.Tuple [.Name x px, .Name y py] kt pt] (.Tuple [a, b] k2 pt2) (X i).env = Pure.pure (some [x, y]))
    (hst : ∀ i, starEach [a, b] (X i).env = (false, eval a (X i).env) :: starEach [b] (X i).env := by intro _; rfl) (hst2 : ∀ i, starEach [b] (X i).env = (false, eval b (X i).env) :: starEach [] (X i).env := by intro _; rfl)
    (hs : ∀ i, swapsWithSole [.Tuple [.Name x px, .Name y py] kt pt] (.Tuple [a, b] k2 pt2) pos.line (X i).env = Pure.pure false := by intro _; rfl) :
    MS X K EW (.Assign [.Tuple [.Name x px, .Name y py] kt pt] (.Tuple [a, b] k2 pt2) pos) (sPar k l ma mb) := by
  obtain ⟨ta, pa, sa⟩ := ha.ex
  obtain ⟨tb, pb, sb⟩ := hb.ex
  refine ⟨⟨_, fun i => ps_par (hc i) (hN i) (hi i) (hj i) hij (hx i) (hy i) (pa_cons (pa i) (pa_cons (pb i) pa_nil (hst2 i)) (hst i)) (hw i) (hs i), fun σ H ρ μ s D hr m h => ?_⟩⟩
  refine sa σ H ρ μ s _ hr m (wp_mono (wp_seq h) (fun v s1 h1 => ?_) fun _ _ q => q)
  intro x H1 μ1 g1 m1 r1
  refine sb σ H1 ρ μ1 s1 _ (hr.mono g1 m) m1 (wp_mono (wp_seq h1) (fun u s2 h2 => ?_) fun _ _ q => q.mono g1)
  intro y H2 μ2 g2 m2 r2
  have g12 := g1.trans g2
  exact ⟨x, y, rfl, h2 _ H2 μ2 g12 m2 (((hr.mono g12 m).set k (Rep.mono g2 m1 v x r1)).set l r2)⟩
end
end FM

set_option autoImplicit false
/-! what is walked; loops; comprehensions -/
namespace FM
open PySem PySem.Spec PyProof.Rows L2

mutual
theorem beqV_eq : ∀ (a b : Val), beqV a b = true → a = b
  | .non, b, h => by cases b <;> simp [beqV] at h; rfl
  | .bl x, b, h => by cases b <;> simp [beqV] at h; rw [h]
  | .int x, b, h => by cases b <;> simp [beqV] at h; rw [h]
  | .str x, b, h => by cases b <;> simp [beqV] at h; rw [h]
  | .tup x, b, h => by cases b <;> simp [beqV] at h; rw [beqVs_eq _ _ h]
  | .lst x, b, h => by cases b <;> simp [beqV] at h; rw [beqVs_eq _ _ h]
  | .scr x, b, h => by cases b <;> simp [beqV] at h; rw [beqVs_eq _ _ h]
  | .dct x y, b, h => by cases b <;> simp [beqV] at h; rw [beqVs_eq _ _ h.1, beqVs_eq _ _ h.2]
  | .ref x y, b, h => by cases b <;> simp [beqV] at h; rw [h.1, h.2]
theorem beqVs_eq : ∀ (a b : List Val), beqVs a b = true → a = b
  | [], b, h => by cases b <;> simp [beqVs] at h; rfl
  | x :: xs, b, h => by cases b <;> simp [beqVs] at h; rw [beqV_eq _ _ h.1, beqVs_eq _ _ h.2]
end
structure Yields (K : PySem.W.Frag) (J : It) (H0 : Hp) (μ0 : Mu) (w : Bool) (xs : List Val) (keep : S → Bool) : Prop where
  len : xs.length ≤ sizeLine
  go : ∀ H μ s i, Grow μ0 H0 μ H → Mem K H μ s → keep s = true → i < xs.length → J.go i H
  stop : ∀ H μ s, Grow μ0 H0 μ H → Mem K H μ s → keep s = true → J.stop xs.length H
  yld : ∀ H μ s i v x H', Grow μ0 H0 μ H → Mem K H μ s → keep s = true → xs[i]? = some v → J.yld i H x H' → Grow μ H μ H' ∧ Mem K H' μ s ∧ RB K H' μ w v x
structure MI {ι : Type} (X : ι → Cx) (K : PySem.W.Frag) (EW : XK) (tg iter : Expr) (m : Ix) (w : Bool) : Prop where
  ex : ∃ wi, (∀ i, PI (X i) tg iter wi) ∧ ∀ σ H ρ μ s (R : It → Hp → Prop), SR K H μ ρ σ → Mem K H μ s →
    (m ρ s).wp (fun p s' => ∀ J H' μ', Grow μ H μ' H' → Mem K H' μ' s' → Yields K J H' μ' w p.1 p.2 → R J H') (XP K μ H EW) → wi σ H R
section
variable {ι : Type} {X : ι → Cx} {K : PySem.W.Frag} {EW : XK} {tg e l a b : Expr} {me ma mb : Ex} {tl : TE} {pos p : Pos}
def iQ (K : PySem.W.Frag) (tl : TE) : TI := fun σ H R => tl σ H fun x H1 => ∃ q, x = .ref q ∧ (((∃ xs, SqL K H1 q xs) ∧ R (Itl K q) H1) ∨ ((∃ xs, SqT K H1 q xs) ∧ R (Itt K q) H1))
theorem pi_q {X : Cx} (hl : PE X l tl) : PI X tg l (iQ X.K tl) := by
  constructor
  intro pins s σ H R I h
  refine thn (hl.run pins s σ H _ I h) fun v s1 hq => ?_
  obtain ⟨x, H1, I1, r1, q, e, hq⟩ := hq
  subst e
  cases r1
  have fresh : ∀ c ∈ [s1.heap.objs.size], FpOk X pins H1 c := fun c hc => by
    have ec : c = s1.heap.objs.size := by simpa using hc
    rw [ec]
    exact I1.fpOk (Nat.le_refl _) (I1.hok.fresh (Nat.le_refl _))
  rcases hq with ⟨⟨xs, hs⟩, hR⟩ | ⟨⟨xs, hs⟩, hR⟩
  · obtain ⟨its, rv, pl, hz⟩ := I1.list hs
    exact wpAny_pyIter_list pl.isList ⟨_, [s1.heap.objs.size], _, _, H1, rfl, I1.kept (t' := s1.toks) fun b o e => Heap.get?_push_of_some _ e, turn_list q _, ⟨_, Heap.get?_push_size _ rfl, rfl, rfl⟩, fresh, hR⟩
  · obtain ⟨its, rv, pl, hz⟩ := I1.tuple hs
    exact wpAny_pyIter_tuple (show s1.heap.IsTuple q its.toArray from pl) ⟨_, [s1.heap.objs.size], _, _, H1, rfl, I1.kept (t' := s1.toks) fun b o e => Heap.get?_push_of_some _ e, turn_tuple q _, ⟨_, Heap.get?_push_size _ rfl, rfl, rfl⟩, fresh, hR⟩
theorem yields_list {H0 : Hp} {μ0 : Mu} {xs : List Val} {keep : S → Bool} {q : Addr} (hl : xs.length ≤ sizeLine)
    (h : ∀ H μ s, Grow μ0 H0 μ H → Mem K H μ s → keep s = true → ∃ vs, SqL K H q vs ∧ RepAll K H μ xs vs) : Yields K (Itl K q) H0 μ0 false xs keep := by
  refine ⟨hl, fun H μ s i g m k hi => ?_, fun H μ s g m k => ?_, fun H μ s i v x H' g m k hv y => ?_⟩
  · obtain ⟨vs, hs, hr⟩ := h H μ s g m k
    exact ⟨vs, vs[i]'(by rw [hr.length]; exact hi), hs, List.getElem?_eq_getElem _⟩
  · obtain ⟨vs, hs, hr⟩ := h H μ s g m k
    exact ⟨vs, hs, by rw [hr.length]; exact Nat.le_refl _⟩
  · obtain ⟨vs, hs, hr⟩ := h H μ s g m k
    obtain ⟨e, hx⟩ := y
    subst e
    obtain ⟨w, hw, rw'⟩ := hr.get hv
    have := hx vs hs
    rw [hw] at this
    cases this
    exact ⟨.refl m, m, rw'⟩
theorem mi_seq (c : CxF X K) (he : ME X K EW e me) : MI X K EW tg e (iSeq me) false := by
  obtain ⟨te, pe, se⟩ := he.ex
  refine ⟨⟨iQ K te, fun i => c.kk i ▸ pi_q (pe i), fun σ H ρ μ s R hr m h => ?_⟩⟩
  refine se σ H ρ μ s _ hr m (wp_mono (wp_bind h) (fun v s1 h1 => ?_) fun _ _ q => q)
  intro x H1 μ1 g1 m1 r1
  cases v with
  | tup xs =>
    obtain ⟨q, vs, eq, hq, hl, hrr⟩ := rep_tup r1
    refine ⟨q, eq, .inr ⟨⟨vs, hq.sqT⟩, ?_⟩⟩
    refine h1 (Itt K q) H1 μ1 g1 m1 ⟨by rw [← hrr.length]; exact hl, fun H2 μ2 s2 i g2 m2 k hi => ?_, fun H2 μ2 s2 g2 m2 k => ?_, fun H2 μ2 s2 i v y H' g2 m2 k hv hy => ?_⟩
    all_goals
      have r2 := Rep.mono g2 m1 _ _ r1
      obtain ⟨q', vs', eq', hq', _, hrr'⟩ := rep_tup r2
      rw [eq] at eq'
      cases eq'
    · exact ⟨vs', vs'[i]'(by rw [hrr'.length]; exact hi), hq'.sqT, List.getElem?_eq_getElem _⟩
    · exact ⟨vs', hq'.sqT, by rw [hrr'.length]; exact Nat.le_refl _⟩
    · obtain ⟨e, hx⟩ := hy
      subst e
      obtain ⟨w, hw, rw'⟩ := hrr'.get hv
      have := hx vs' hq'.sqT
      rw [hw] at this
      cases this
      exact ⟨.refl m2, m2, rw'⟩
  | lst xs =>
    obtain ⟨q, vs, eq, hq, hl, hrr⟩ := rep_asL m1 r1 (xs := xs) rfl
    refine ⟨q, eq, .inl ⟨⟨vs, hq⟩, ?_⟩⟩
    refine h1 (Itl K q) H1 μ1 g1 m1 (yields_list (by rw [← hrr.length]; exact hl) fun H2 μ2 s2 g2 m2 k => ?_)
    obtain ⟨q', vs', eq', hq', _, hrr'⟩ := rep_asL m2 (Rep.mono g2 m1 _ _ r1) (xs := xs) rfl
    rw [eq] at eq'
    cases eq'
    exact ⟨vs', hq', hrr'⟩
  | scr xs =>
    obtain ⟨q, vs, eq, hq, hl, hrr⟩ := rep_asL m1 r1 (xs := xs) rfl
    refine ⟨q, eq, .inl ⟨⟨vs, hq⟩, ?_⟩⟩
    refine h1 (Itl K q) H1 μ1 g1 m1 (yields_list (by rw [← hrr.length]; exact hl) fun H2 μ2 s2 g2 m2 k => ?_)
    obtain ⟨q', vs', eq', hq', _, hrr'⟩ := rep_asL m2 (Rep.mono g2 m1 _ _ r1) (xs := xs) rfl
    rw [eq] at eq'
    cases eq'
    exact ⟨vs', hq', hrr'⟩
  | ref f n =>
    cases ea : asL s1 (.ref f n) with
    | none =>
      have : asQ s1 (.ref f n) = none := ea
      rw [this] at h1
      exact False.elim h1
    | some xs =>
      have eq0 : asQ s1 (.ref f n) = some xs := ea
      rw [eq0] at h1
      obtain ⟨q, vs, eq, hq, hl, hrr⟩ := rep_asL m1 r1 ea
      refine ⟨q, eq, .inl ⟨⟨vs, hq⟩, ?_⟩⟩
      refine h1 (Itl K q) H1 μ1 g1 m1 (yields_list (by rw [← hrr.length]; exact hl) fun H2 μ2 s2 g2 m2 k => ?_)
      have k : (match lk s2 f n with | some (.lst ys) => beqVs ys xs | _ => false) = true := k
      have ek : asL s2 (.ref f n) = some xs := by
        split at k
        · rename_i ys e
          simp only [asL, e, beqVs_eq _ _ k]
        · cases k
      obtain ⟨q', vs', eq', hq', _, hrr'⟩ := rep_asL m2 (Rep.mono g2 m1 _ _ r1) ek
      rw [eq] at eq'
      cases eq'
      exact ⟨vs', hq', hrr'⟩
  | _ => exact False.elim h1
theorem rangeV_get {lo : Int} {n i : Nat} {v : Val} (h : (rangeV lo n)[i]? = some v) : i < n ∧ v = .int (lo + (i : Nat)) := by
  unfold rangeV at h
  rw [List.getElem?_map] at h
  by_cases hi : i < n
  · rw [List.getElem?_range hi] at h
    cases h
    exact ⟨hi, rfl⟩
  · rw [List.getElem?_eq_none (by simp; omega)] at h
    cases h
theorem rangeV_len {lo : Int} {n : Nat} : (rangeV lo n).length = n := by simp [rangeV]
theorem yields_range {H0 : Hp} {μ0 : Mu} {lo : Int} {n : Nat} (hl : n ≤ sizeLine) : Yields K (Itr lo n) H0 μ0 false (rangeV lo n) (fun _ => true) := by
  refine ⟨by rw [rangeV_len]; exact hl, fun H μ s i g m k hi => by rw [rangeV_len] at hi; exact hi, fun H μ s g m k => by rw [rangeV_len]; exact Nat.le_refl _, fun H μ s i v x H' g m k hv y => ?_⟩
  obtain ⟨e, hx⟩ := y
  subst e
  obtain ⟨_, ev⟩ := rangeV_get hv
  rw [ev, hx]
  exact ⟨.refl m, m, show Rep K _ _ _ _ from rep_of_int⟩
theorem mi_range1 (hg : ∀ i, Gl (X i) "range") (hm : ∀ i, (X i).mg "range" = none) (ha : ME X K EW a ma) (hs : ∀ i, starEach [a] (X i).env = (false, eval a (X i).env) :: starEach [] (X i).env := by intro _; rfl) (hs2 : ∀ i, starEach [a] (X i).env = [(false, eval a (X i).env)] := by intro _; rfl) : MI X K EW tg (.Call (.Name "range" p) [a] [] pos) (iRange1 ma) false := by
  obtain ⟨ta, pa, sa⟩ := ha.ex
  refine ⟨⟨_, fun i => pi_range1 (hg i) (hm i) (pa_cons (pa i) pa_nil (hs i)) (hs2 i), fun σ H ρ μ s R hr m h => ?_⟩⟩
  refine sa σ H ρ μ s _ hr m (wp_mono (wp_bind h) (fun v s1 h1 => ?_) fun _ _ q => q)
  intro x H1 μ1 g1 m1 r1
  cases v with
  | int n =>
    simp only [] at h1
    split at h1
    · rename_i hn
      have hz : (sizeLine : Int) = 16777216 := by rw [show sizeLine = 16777216 from rfl]; rfl
      exact ⟨n, by rw [rep_int r1], by omega, by omega, h1 (Itr 0 n.toNat) H1 μ1 g1 m1 (yields_range (by omega))⟩
    · exact False.elim h1
  | _ => exact False.elim h1
theorem mi_range2 (hg : ∀ i, Gl (X i) "range") (hm : ∀ i, (X i).mg "range" = none) (ha : ME X K EW a ma) (hb : ME X K EW b mb) (hs : ∀ i, starEach [a, b] (X i).env = (false, eval a (X i).env) :: starEach [b] (X i).env := by intro _; rfl) (hs1 : ∀ i, starEach [b] (X i).env = (false, eval b (X i).env) :: starEach [] (X i).env := by intro _; rfl)
    (hs2 : ∀ i, starEach [a, b] (X i).env = [(false, eval a (X i).env), (false, eval b (X i).env)] := by intro _; rfl) (hs3 : ∀ i, starEach [b] (X i).env = [(false, eval b (X i).env)] := by intro _; rfl) : MI X K EW tg (.Call (.Name "range" p) [a, b] [] pos) (iRange2 ma mb) false := by
  obtain ⟨ta, pa, sa⟩ := ha.ex
  obtain ⟨tb, pb, sb⟩ := hb.ex
  refine ⟨⟨_, fun i => pi_range2 (hg i) (hm i) (pa_cons (pa i) (pa_cons (pb i) pa_nil (hs1 i)) (hs i)) (hs2 i) (hs3 i), fun σ H ρ μ s R hr m h => ?_⟩⟩
  refine sa σ H ρ μ s _ hr m (wp_mono (wp_bind h) (fun v s1 h1 => ?_) fun _ _ q => q)
  intro x H1 μ1 g1 m1 r1
  refine sb σ H1 ρ μ1 s1 _ (hr.mono g1 m) m1 (wp_mono (wp_bind h1) (fun u s2 h2 => ?_) fun _ _ q => q.mono g1)
  intro y H2 μ2 g2 m2 r2
  split at h2
  · rename_i k n
    split at h2
    · rename_i hn
      have hz : (sizeLine : Int) = 16777216 := by rw [show sizeLine = 16777216 from rfl]; rfl
      refine ⟨k, n, by rw [rep_int r1, rep_int r2], ⟨by omega, by omega, by omega, by omega⟩, h2 (Itr k (n - k).toNat) H2 μ2 (g1.trans g2) m2 (yields_range (by omega))⟩
    · exact False.elim h2
  · exact False.elim h2
/-- for -/
theorem ms_for {iter : Expr} {body : List Stmt} {mi : Ix} {mg : Gx} {mb : Sx} {ks : List Nat} {w : Bool} (hp : ∀ i, PassesOwn (model (X i).prog (X i).w) (X i).A (X i).env (X i).xe) (c : CxF X K) (hi : MI X K EW tg iter mi w) (hg : MG X K tg mg ks w) (hb : MSs X K EW body mb)
    (hs : ∀ i x, foldedSetIterable iter (X i).env x = Pure.pure x := by intro _ _; rfl) : MS X K EW (.For tg iter body [] pos) (sFor mi mg mb) := by
  obtain ⟨wi, pi, si⟩ := hi.ex
  obtain ⟨tg', pg, sg⟩ := hg.ex
  obtain ⟨tb, pb, sb⟩ := hb.ex
  refine ⟨⟨_, fun i => ps_for (hp i) (c.calm i) (pi i) (pg i) (pb i) (hs i), fun σ H ρ μ s D hr m h => ?_⟩⟩
  refine si σ H ρ μ s _ hr m (wp_mono (wp_seq h) (fun q s1 h1 => ?_) fun _ _ q => q)
  obtain ⟨xs, keep⟩ := q
  intro J H1 μ1 g1 m1 Y
  refine ⟨fun i n σ H => n = xs.length - i ∧ i ≤ xs.length ∧ ∃ ρ μ s, Grow μ1 H1 μ H ∧ Mem K H μ s ∧ SR K H μ ρ σ ∧ SW K μ H D EW (forL keep mg mb (xs.drop i) ρ s),
    ⟨xs.length, by simp, Nat.zero_le _, ρ, μ1, s1, .refl m1, m1, hr.mono g1 m, SW.mono g1 h1⟩, fun i n σ2 H2 hW => ?_⟩
  obtain ⟨en, hi, ρ2, μ2, s2, g2, m2, r2, h2⟩ := hW
  by_cases hlt : i < xs.length
  · rw [List.drop_eq_getElem_cons hlt] at h2
    have hx : xs[i]? = some xs[i] := List.getElem?_eq_getElem hlt
    generalize xs[i] = v at h2 hx
    unfold SW forL at h2
    split at h2
    · rename_i hk
      split at h2
      · rename_i ρ3 e3
        refine .inr ⟨Y.go H2 μ2 s2 i g2 m2 hk hlt, fun σ' H' => (xs.length - (i + 1) = xs.length - (i + 1)) ∧ i + 1 ≤ xs.length ∧ ∃ ρ μ s, Grow μ1 H1 μ H' ∧ Mem K H' μ s ∧ SR K H' μ ρ σ' ∧ SW K μ H' D EW (forL keep mg mb (xs.drop (i + 1)) ρ s),
          fun σ' H' hN => ⟨_, by omega, hN⟩, fun x H' hy => ?_⟩
        obtain ⟨g3, m3, r3⟩ := Y.yld H2 μ2 s2 i v x H' g2 m2 hk hx hy
        refine sg σ2 H' ρ2 μ2 s2 x v ρ3 _ (r2.mono g3 m2) m3 r3 e3 fun σ4 hr4 _ => ?_
        refine sb σ4 H' ρ3 μ2 s2 _ hr4 m3 ?_
        unfold SW
        have next : ∀ (ρ5 : FM.Env) (s5 : S), (forL keep mg mb (xs.drop (i + 1)) ρ5 s5).wp (NP K μ2 H2 D.nx) (VP K μ2 H2 D.rt) (NP K μ2 H2 D.bk) (NP K μ2 H2 D.ct) (XP K μ2 H2 EW) →
            NP K μ2 H' (fun σ' H' => (xs.length - (i + 1) = xs.length - (i + 1)) ∧ i + 1 ≤ xs.length ∧ ∃ ρ μ s, Grow μ1 H1 μ H' ∧ Mem K H' μ s ∧ SR K H' μ ρ σ' ∧ SW K μ H' D EW (forL keep mg mb (xs.drop (i + 1)) ρ s)) ρ5 s5 := by
          intro ρ5 s5 h5 σ6 H6 μ6 g6 m6 r6
          exact ⟨rfl, hlt, ρ5, μ6, s5, g2.trans (g3.trans g6), m6, r6, SW.mono (g3.trans g6) h5⟩
        cases e5 : mb ρ3 s2 with
        | nx ρ5 s5 => rw [e5] at h2; exact next ρ5 s5 h2
        | ct ρ5 s5 => rw [e5] at h2; exact next ρ5 s5 h2
        | bk ρ5 s5 => rw [e5] at h2; exact NP.mono g3 h2
        | rt v5 s5 => rw [e5] at h2; exact VP.mono g3 h2
        | ex e6 s5 => rw [e5] at h2; exact XP.mono g3 h2
        | no => rw [e5] at h2; exact h2
      · exact False.elim h2
    · exact False.elim h2
  · have ei : i = xs.length := by omega
    subst ei
    rw [List.drop_length] at h2
    unfold SW forL at h2
    split at h2
    · rename_i hk
      exact .inl ⟨Y.stop H2 μ2 s2 g2 m2 hk, h2 σ2 H2 μ2 (.refl m2) m2 r2⟩
    · exact False.elim h2
/-- while -/
theorem ms_while {c : Expr} {body : List Stmt} {mt : Tx} {mb : Sx} {N : Nat} (hp : ∀ i, PassesOwn (model (X i).prog (X i).w) (X i).A (X i).env (X i).xe) (hc : MT X K EW c mt) (hb : MSs X K EW body mb) : MS X K EW (.While c body [] pos) (sWhile N mt mb) := by
  obtain ⟨tc, pc, sc⟩ := hc.ex
  obtain ⟨tb, pb, sb⟩ := hb.ex
  refine ⟨⟨_, fun i => ps_while (hp i) (pc i) (pb i), fun σ H ρ μ s D hr m h => ?_⟩⟩
  refine ⟨fun n σ2 H2 => ∃ ρ2 μ2 s2, Grow μ H μ2 H2 ∧ Mem K H2 μ2 s2 ∧ SR K H2 μ2 ρ2 σ2 ∧ SW K μ2 H2 D EW (whileL mt mb n ρ2 s2), ⟨N, ρ, μ, s, .refl m, m, hr, h⟩, fun n σ2 H2 hW => ?_⟩
  obtain ⟨ρ2, μ2, s2, g2, m2, r2, h2⟩ := hW
  cases n with
  | zero => exact False.elim h2
  | succ n =>
    refine sc σ2 H2 ρ2 μ2 s2 _ r2 m2 (wp_mono (wp_seq h2) (fun v s3 h3 => ?_) fun _ _ q => q)
    intro H3 μ3 g3 m3
    cases v with
    | false =>
      rw [if_neg Bool.false_ne_true] at h3 ⊢
      exact h3 σ2 H3 μ3 g3 m3 (r2.mono g3 m2)
    | true =>
      rw [if_pos rfl] at h3 ⊢
      refine ⟨fun σ' H' => ∃ ρ5 μ5 s5, Grow μ H μ5 H' ∧ Mem K H' μ5 s5 ∧ SR K H' μ5 ρ5 σ' ∧ SW K μ5 H' D EW (whileL mt mb n ρ5 s5), fun σ' H' hN => ⟨n, Nat.lt_succ_self n, hN⟩, ?_⟩
      refine sb σ2 H3 ρ2 μ3 s3 _ (r2.mono g3 m2) m3 ?_
      unfold SW
      have next : ∀ (ρ5 : FM.Env) (s5 : S), SW K μ2 H2 D EW (whileL mt mb n ρ5 s5) →
          NP K μ3 H3 (fun σ' H' => ∃ ρ5 μ5 s5, Grow μ H μ5 H' ∧ Mem K H' μ5 s5 ∧ SR K H' μ5 ρ5 σ' ∧ SW K μ5 H' D EW (whileL mt mb n ρ5 s5)) ρ5 s5 := by
        intro ρ5 s5 h5 σ6 H6 μ6 g6 m6 r6
        exact ⟨ρ5, μ6, s5, g2.trans (g3.trans g6), m6, r6, SW.mono (g3.trans g6) h5⟩
      cases e5 : mb ρ2 s3 with
      | nx ρ5 s5 => rw [e5] at h3; exact next ρ5 s5 h3
      | ct ρ5 s5 => rw [e5] at h3; exact next ρ5 s5 h3
      | bk ρ5 s5 => rw [e5] at h3; exact NP.mono g3 h3
      | rt v5 s5 => rw [e5] at h3; exact VP.mono g3 h3
      | ex e6 s5 => rw [e5] at h3; exact XP.mono g3 h3
      | no => rw [e5] at h3; exact h3
end
end FM

set_option autoImplicit false
/-! comprehensions, new lists, lists that change -/
namespace FM
open PySem PySem.Spec PyProof.Rows L2

theorem get_wipe (σ : L2.St) : ∀ (vs : List Nat) (j : Nat), (L2.wipe σ vs)[j]? = if j ∈ vs ∧ j < σ.length then some none else σ[j]?
  | [], j => by simp [L2.wipe]
  | v :: vs, j => by
    unfold L2.wipe
    by_cases hj : v = j
    · subst hj
      by_cases hl : v < σ.length
      · rw [List.getElem?_set_self (by rw [wipe_length]; exact hl), if_pos ⟨List.mem_cons_self, hl⟩]
      · rw [List.getElem?_eq_none (by rw [List.length_set, wipe_length]; omega), if_neg (fun q => hl q.2), List.getElem?_eq_none (by omega)]
    · rw [List.getElem?_set_ne hj, get_wipe σ vs j]
      have : (j ∈ v :: vs) ↔ j ∈ vs := by simp [Ne.symm hj]
      simp only [this]
theorem wipe_agr {σ σ' : L2.St} {ks vs : List Nat} (h : Agr ks σ σ') (hk : ∀ k ∈ ks, k ∈ vs) : L2.wipe σ' vs = L2.wipe σ vs := by
  apply List.ext_getElem?
  intro j
  rw [get_wipe, get_wipe, h.1]
  by_cases hj : j ∈ vs ∧ j < σ.length
  · rw [if_pos hj, if_pos hj]
  · rw [if_neg hj, if_neg hj]
    by_cases hm : j ∈ ks
    · have : ¬ j < σ.length := fun q => hj ⟨hk j hm, q⟩
      rw [List.getElem?_eq_none (by rw [h.1]; omega), List.getElem?_eq_none (by omega)]
    · exact h.2 j hm
/-- a clause's tests -/
structure MTs {ι : Type} (X : ι → Cx) (K : PySem.W.Frag) (EW : XK) (ifs : List Expr) (m : Tx) : Prop where
  ex : ∃ t, (∀ i, PTs (X i) ifs t) ∧ ∀ σ H ρ μ s Q, SR K H μ ρ σ → Mem K H μ s → (m ρ s).wp (TsP K μ H Q) (XP K μ H EW) → t σ H Q
abbrev NoX : XK := fun _ _ _ => False
section
variable {ι : Type} {X : ι → Cx} {K : PySem.W.Frag} {EW : XK} {c : Expr} {mt : Tx}
theorem mts_nil : MTs X K EW [] FM.tYes := ⟨⟨_, fun _ => pts_nil, fun σ H ρ μ s Q hr m h => h H μ (.refl m) m⟩⟩
theorem mts_one (h : MT X K EW c mt) : MTs X K EW [c] mt := let ⟨t, p, q⟩ := h.ex; ⟨⟨t, fun i => pts_one (p i), q⟩⟩
end
section
variable {ι : Type} {X : ι → Cx} {K : PySem.W.Frag} {EW : XK} {elt tg iter : Expr} {ifs : List Expr} {scope : Scope} {own : List (PySem.Str × Nat)} {pos : Pos} {mi : Ix} {mg : Gx} {mt : Tx} {me : Ex} {ks : List Nat} {w : Bool}
theorem comp_snd {wi : TI} {g : TG} {tt : TT} {te : TE} {σ : L2.St} {H : Hp} {ρ : FM.Env} {μ : Mu} {s : S} {Q : VK} (vs : List Nat)
    (si : ∀ σ H ρ μ s (R : It → Hp → Prop), SR K H μ ρ σ → Mem K H μ s → (mi ρ s).wp (fun p s' => ∀ J H' μ', Grow μ H μ' H' → Mem K H' μ' s' → Yields K J H' μ' w p.1 p.2 → R J H') (XP K μ H EW) → wi σ H R)
    (sg : ∀ σ H ρ μ s x v ρ' Q, SR K H μ ρ σ → Mem K H μ s → RB K H μ w v x → mg v ρ = some ρ' → (∀ σ', SR K H μ ρ' σ' → Agr ks σ σ' → Q σ' H) → g x σ H Q)
    (st : ∀ σ H ρ μ s Q, SR K H μ ρ σ → Mem K H μ s → (mt ρ s).wp (TsP K μ H Q) (XP K μ H NoX) → tt σ H Q)
    (se : ∀ σ H ρ μ s Q, SR K H μ ρ σ → Mem K H μ s → (me ρ s).wp (VP K μ H Q) (XP K μ H NoX) → te σ H Q)
    (hk : ∀ k ∈ ks, k ∈ vs) (hr : SR K H μ ρ σ) (m : Mem K H μ s) (h : (fComp mi vs mg mt me ρ s).wp (FsP K μ H Q) (XP K μ H EW)) : tLc wi g tt te vs σ H Q := by
  refine si σ H ρ μ s _ hr m (wp_mono (wp_bind h) (fun q s1 h1 => ?_) fun _ _ q => q)
  obtain ⟨xs, keep⟩ := q
  intro J H1 μ1 g1 m1 Y D hD
  have h1 := wp_nox (E' := fun _ _ => False) h1
  simp only at h1 Y
  have off0 : Off μ1 D := m1.off hD
  have hD0 : H D = none := g1.none hD
  have offs : ∀ (μ2 : Mu) (H2 : Hp), Grow μ1 H1 μ2 H2 → True := fun _ _ _ => trivial
  refine ⟨fun i n H2 => n = xs.length - i ∧ i ≤ xs.length ∧ ∃ (acc : List Val) (ws : List V) (μ2 : Mu) (s2 : S), Grow μ1 H1 (μ2.hide D) H2 ∧ Mem K H2 (μ2.hide D) s2 ∧ ¬ μ2.hid D ∧ H2 D = some (.lst ws) ∧ ws.length ≤ i ∧ RepAll K H2 (μ2.hide D) acc ws ∧
      (compL keep mg mt me (FM.wipe ρ vs) (xs.drop i) acc s2).wp (FsP K μ H Q) (fun _ _ => False),
    ⟨xs.length, by simp, Nat.zero_le _, [], [], μ1, s1, m1.newHid hD, ?_, off0.2, upd_same, Nat.le_refl _, .nil, h1⟩, fun i n H2 hW => ?_⟩
  · refine ⟨m1.shp, m1.nd, fun f hf b hb hq => ?_, fun f n b c e1 e2 => ?_, m1.bel, fun b hb => ?_⟩
    · rcases hq with e | e
      · exact off0.1 f hf (by rw [← e]; exact hb)
      · exact m1.sep f hf b hb e
    · have q := m1.cel f n b c e1 e2
      cases c with
      | lst ys =>
        obtain ⟨us, e, hl, hr⟩ := q
        exact ⟨us, by rw [upd_ne (ne_of_none e hD)]; exact e, hl, RepAll.mono (m1.newHid hD) m1 _ _ hr⟩
      | dct _ _ => exact q.elim
    · rcases hb with e | e
      · rw [e]; exact ⟨[], upd_same⟩
      · obtain ⟨us, e2⟩ := m1.hd b e
        exact ⟨us, by rw [upd_ne (ne_of_none e2 hD)]; exact e2⟩
  · obtain ⟨en, hi, acc, ws, μ2, s2, g2, m2, nh, eD, hwl, hrr, h2⟩ := hW
    by_cases hlt : i < xs.length
    · rw [List.drop_eq_getElem_cons hlt] at h2
      have hx : xs[i]? = some xs[i] := List.getElem?_eq_getElem hlt
      generalize xs[i] = v at h2 hx
      unfold compL at h2
      split at h2
      · rename_i hk2
        split at h2
        · rename_i ρ3 e3
          refine .inr ⟨Y.go H2 _ s2 i g2 m2 hk2 hlt, fun H' => (xs.length - (i + 1) = xs.length - (i + 1)) ∧ i + 1 ≤ xs.length ∧ ∃ (acc : List Val) (ws : List V) (μ2 : Mu) (s2 : S), Grow μ1 H1 (μ2.hide D) H' ∧ Mem K H' (μ2.hide D) s2 ∧ ¬ μ2.hid D ∧ H' D = some (.lst ws) ∧ ws.length ≤ i + 1 ∧ RepAll K H' (μ2.hide D) acc ws ∧
              (compL keep mg mt me (FM.wipe ρ vs) (xs.drop (i + 1)) acc s2).wp (FsP K μ H Q) (fun _ _ => False),
            fun H' hN => ⟨_, by omega, hN⟩, fun x H' hy => ?_⟩
          obtain ⟨g3, m3, r3⟩ := Y.yld H2 _ s2 i v x H' g2 m2 hk2 hx hy
          have hrw : SR K H' (μ2.hide D) (FM.wipe ρ vs) (L2.wipe σ vs) := ((hr.mono (g1.trans (g2.trans g3)) m)).wipe vs
          refine sg (L2.wipe σ vs) H' (FM.wipe ρ vs) (μ2.hide D) s2 x v ρ3 _ hrw m3 r3 e3 fun σ4 hr4 ag => ⟨?_, ?_⟩
          · rw [wipe_agr ag hk]
            apply List.ext_getElem?
            intro j
            rw [get_wipe, get_wipe, wipe_length]
            by_cases hj : j ∈ vs ∧ j < σ.length
            · rw [if_pos hj, if_pos hj]
            · rw [if_neg hj, if_neg hj]
          refine st σ4 H' ρ3 _ s2 _ hr4 m3 (wp_mono (wp_bind h2) (fun b s5 h5 => ?_) fun _ _ q => q.elim)
          intro H5 μ5 g5 m5
          have hD5 : μ5.hid D := g5.hs D (.inl rfl)
          have e5 : H5 D = some (.lst ws) := by rw [g5.hk D (.inl rfl), g3.hk D (.inl rfl)]; exact eD
          have r5 : RepAll K H5 μ5 acc ws := RepAll.mono (g3.trans g5) m2 _ _ hrr
          cases b with
          | false =>
            rw [if_neg Bool.false_ne_true] at h5 ⊢
            refine ⟨rfl, hlt, acc, ws, μ5.show D, s5, ?_, ?_, fun q => q.1 rfl, e5, by omega, ?_, h5⟩
            · rw [show_hide hD5]; exact g2.trans (g3.trans g5)
            · rw [show_hide hD5]; exact m5
            · rw [show_hide hD5]; exact r5
          | true =>
            rw [if_pos rfl] at h5 ⊢
            refine se σ4 H5 ρ3 μ5 s5 _ (hr4.mono g5 m3) m5 (wp_mono (wp_bind h5) (fun u s6 h6 => ?_) fun _ _ q => q.elim)
            intro y H6 μ6 g6 m6 r6
            have hD6 : μ6.hid D := g6.hs D hD5
            have e6 : H6 D = some (.lst ws) := by rw [g6.hk D hD5]; exact e5
            have no : ¬ Off μ6 D := fun q => q.2 hD6
            refine ⟨ws, e6, by have := Y.len; omega, rfl, hlt, acc ++ [u], ws ++ [y], μ6.show D, s6, ?_, ?_, fun q => q.1 rfl, upd_same, by simp; omega, ?_, h6⟩
            · rw [show_hide hD6]; exact (g2.trans (g3.trans (g5.trans g6))).updHid hD off0
            · rw [show_hide hD6]; exact m6.updHid hD6
            · rw [show_hide hD6]
              exact RepAll.upd no ⟨ws, e6⟩ _ _ ((RepAll.mono g6 m5 _ _ r5).append (.one r6))
        · exact False.elim h2
      · exact False.elim h2
    · have ei : i = xs.length := by omega
      subst ei
      rw [List.drop_length] at h2
      unfold compL at h2
      split at h2
      · rename_i hk2
        exact .inl ⟨Y.stop H2 _ s2 g2 m2 hk2, h2 D ws H2 μ2 (g1.trans g2) m2 hD0 nh eD (Nat.le_trans hwl Y.len) hrr⟩
      · exact False.elim h2
/-- the block's contexts -/
abbrev Blk (ι : Type) := ι × Shared × Hp × Addr × List (PySem.Str × Addr) × List Addr
abbrev blk {ι : Type} (X : ι → Cx) (scope : Scope) : Blk ι → Cx := fun p => (X p.1).blk p.2.1 p.2.2.1 scope (compEnvC scope p.2.2.2.2.1 p.2.2.2.1 (X p.1).env) p.2.2.2.2.2
theorem CxF.blk (c : CxF X K) : CxF (blk X scope) K := ⟨fun p => c.calm p.1, fun p => c.nd p.1, fun p => c.un p.1, fun p => c.kk p.1⟩
theorem CxG.blk {k : Nat} (c : CxG X K k) : CxG (FM.blk X scope) K k := ⟨c.toCxF.blk, fun p => c.gd p.1, fun p => c.rm p.1⟩
theorem mf_comp (c : CxF X K) (hi : MI X K EW tg iter mi w) (ok : ∀ i, BlkOk (X i).N (X i).env.scope scope own)
    (hg : MG (blk X scope) K tg mg ks w) (ht : MTs (blk X scope) K NoX ifs mt) (he : ME (blk X scope) K NoX elt me)
    (hk : ∀ k ∈ ks, k ∈ own.map (·.2) := by decide) (hs : ∀ i x, foldedSetIterable iter (X i).env x = Pure.pure x := by intro _ _; rfl) :
    MF X K EW (.ListComp elt [⟨tg, iter, ifs, 0⟩] scope pos) (fComp mi (own.map (·.2)) mg mt me) := by
  obtain ⟨wi, pi, si⟩ := hi.ex
  obtain ⟨tg', pg, sg⟩ := hg.ex
  obtain ⟨tt, pt, st⟩ := ht.ex
  obtain ⟨te, pe, se⟩ := he.ex
  exact ⟨⟨_, fun i => pe_lc (c.calm i) (c.nd i) (pi i) (ok i) (fun s H C cl fp => pg (i, s, H, C, cl, fp)) (fun s H C cl fp => pt (i, s, H, C, cl, fp)) (fun s H C cl fp => pe (i, s, H, C, cl, fp)) (hs i),
    fun σ H ρ μ s Q hr m h => comp_snd (own.map (·.2)) si sg st se hk hr m h⟩⟩
/-- name = [..] on one line, dead or alive -/
theorem ms_setLcD {i : Nat} {y : PySem.Str} {py spos : Pos} (c : CxF X K) (hy : ∀ j, (X j).N[i]? = some y) (hyl : ∀ j, (X j).env.scope.names.lookup y = some .local)
    (hsw : ∀ j, swapsWith (.ListComp elt [⟨tg, iter, ifs, 0⟩] scope pos) (some (.Name y py)) spos.line (X j).env = Pure.pure true)
    (hi : MI X K EW tg iter mi w) (ok : ∀ i, BlkOk (X i).N (X i).env.scope scope own)
    (hg : MG (blk X scope) K tg mg ks w) (ht : MTs (blk X scope) K NoX ifs mt) (he : ME (blk X scope) K NoX elt me)
    (hk : ∀ k ∈ ks, k ∈ own.map (·.2) := by decide) (hs : ∀ i x, foldedSetIterable iter (X i).env x = Pure.pure x := by intro _ _; rfl) :
    MS X K EW (.Assign [.Name y py] (.ListComp elt [⟨tg, iter, ifs, 0⟩] scope pos) spos) (sAsg (eDead (fComp mi (own.map (·.2)) mg mt me)) (FM.gName i)) := by
  obtain ⟨wi, pi, si⟩ := hi.ex
  obtain ⟨tg', pg, sg⟩ := hg.ex
  obtain ⟨tt, pt, st⟩ := ht.ex
  obtain ⟨te, pe, se⟩ := he.ex
  refine ⟨⟨_, fun j => ps_setLc (c.calm j) (c.nd j) (hy j) (hyl j) (hsw j) (pi j) (ok j) (fun s H C cl fp => pg (j, s, H, C, cl, fp)) (fun s H C cl fp => pt (j, s, H, C, cl, fp)) (fun s H C cl fp => pe (j, s, H, C, cl, fp)) (hs j), fun σ H ρ μ s D hr m h => ?_⟩⟩
  refine dead_snd (fun σ H ρ μ s Q hr m h => comp_snd (own.map (·.2)) si sg st se hk hr m h) σ H ρ μ s _ hr m (wp_mono (wp_seq h) (fun v s1 h1 => ?_) fun _ _ q => q)
  intro x H1 μ1 g1 m1 r1
  exact h1 _ H1 μ1 g1 m1 ((hr.mono g1 m).set i r1)
theorem ms_setLcL {i : Nat} {y : PySem.Str} {py spos : Pos} (c : CxF X K) (hy : ∀ j, (X j).N[i]? = some y) (hyl : ∀ j, (X j).env.scope.names.lookup y = some .local)
    (hsw : ∀ j, swapsWith (.ListComp elt [⟨tg, iter, ifs, 0⟩] scope pos) (some (.Name y py)) spos.line (X j).env = Pure.pure true)
    (hi : MI X K EW tg iter mi w) (ok : ∀ i, BlkOk (X i).N (X i).env.scope scope own)
    (hg : MG (blk X scope) K tg mg ks w) (ht : MTs (blk X scope) K NoX ifs mt) (he : ME (blk X scope) K NoX elt me)
    (hk : ∀ k ∈ ks, k ∈ own.map (·.2) := by decide) (hs : ∀ i x, foldedSetIterable iter (X i).env x = Pure.pure x := by intro _ _; rfl) :
    MS X K EW (.Assign [.Name y py] (.ListComp elt [⟨tg, iter, ifs, 0⟩] scope pos) spos) (sAsg (eLive (fComp mi (own.map (·.2)) mg mt me)) (FM.gName i)) := by
  obtain ⟨wi, pi, si⟩ := hi.ex
  obtain ⟨tg', pg, sg⟩ := hg.ex
  obtain ⟨tt, pt, st⟩ := ht.ex
  obtain ⟨te, pe, se⟩ := he.ex
  refine ⟨⟨_, fun j => ps_setLc (c.calm j) (c.nd j) (hy j) (hyl j) (hsw j) (pi j) (ok j) (fun s H C cl fp => pg (j, s, H, C, cl, fp)) (fun s H C cl fp => pt (j, s, H, C, cl, fp)) (fun s H C cl fp => pe (j, s, H, C, cl, fp)) (hs j), fun σ H ρ μ s D hr m h => ?_⟩⟩
  refine live_snd (fun σ H ρ μ s Q hr m h => comp_snd (own.map (·.2)) si sg st se hk hr m h) σ H ρ μ s _ hr m (wp_mono (wp_seq h) (fun v s1 h1 => ?_) fun _ _ q => q)
  intro x H1 μ1 g1 m1 r1
  exact h1 _ H1 μ1 g1 m1 ((hr.mono g1 m).set i r1)
end
/-! ### other new lists -/
section
variable {ι : Type} {X : ι → Cx} {K : PySem.W.Frag} {EW : XK} {a b e o i : Expr} {es : List Expr} {ma mb mo mi : Ex} {mas : Ax} {mf : Fx} {pos p apos cpos : Pos}
theorem mf_lst (ha : MA X K EW es mas) (hl : es.length ≤ sizeLine := by decide) : MF X K EW (.List es pos) (fLst mas) := by
  obtain ⟨ta, pa, sa⟩ := ha.ex
  refine ⟨⟨_, fun i => pe_lst (pa i), fun σ H ρ μ s Q hr m h => ?_⟩⟩
  refine sa σ H ρ μ s _ hr m (wp_mono (wp_len h) (fun v s1 h1 => ?_) fun _ _ q => q)
  obtain ⟨e1, h1⟩ := h1
  intro x H1 μ1 g1 m1 r1
  have el : x.length ≤ sizeLine := by rw [r1.length, ha.len _ _ _ _ e1]; exact hl
  exact ⟨el, fs_new h1 g1 m1 el r1⟩
theorem rangeV_rep {H : Hp} {μ : Mu} (lo : Int) : ∀ (l : List Nat), RepAll K H μ (l.map fun (i : Nat) => Val.int (lo + (i : Int))) (l.map fun i => V.int (lo + (i : Nat)))
  | [] => .nil
  | n :: l => .cons rep_of_int (rangeV_rep lo l)
theorem mf_range (c : CxF X K) (hg : ∀ i, Gl (X i) "list") (hm : ∀ i, (X i).mg "list" = none) (hg2 : ∀ i, Gl (X i) "range") (hm2 : ∀ i, (X i).mg "range" = none) (ha : ME X K EW a ma)
    {p2 pos2 : Pos} (hs : ∀ i, starEach [a] (X i).env = (false, eval a (X i).env) :: starEach [] (X i).env := by intro _; rfl)
    (hs2 : ∀ i, starEach [.Call (.Name "range" p2) [a] [] pos2] (X i).env = (false, eval (.Call (.Name "range" p2) [a] [] pos2) (X i).env) :: starEach [] (X i).env := by intro _; rfl) :
    MF X K EW (.Call (.Name "list" p) [.Call (.Name "range" p2) [a] [] pos2] [] pos) (fRange ma) := by
  obtain ⟨ta, pa, sa⟩ := ha.ex
  refine ⟨⟨_, fun i => pe_listRg (c.calm i) (hg i) (hm i) (prg_1 (hg2 i) (hm2 i) (pa i) (hs i)) (hs2 i), fun σ H ρ μ s Q hr m h => ?_⟩⟩
  refine sa σ H ρ μ s _ hr m (wp_mono (wp_bind h) (fun v s1 h1 => ?_) fun _ _ q => q)
  intro x H1 μ1 g1 m1 r1
  split at h1
  · rename_i n
    split at h1
    · rename_i hn
      have hz : (sizeLine : Int) = 16777216 := by rw [show sizeLine = 16777216 from rfl]; rfl
      refine ⟨n, rep_int r1, ⟨by omega, by omega, by omega, by omega, by omega⟩, ?_⟩
      have e : (rangeV 0 n.toNat) = (List.range n.toNat).map fun (i : Nat) => Val.int (0 + (i : Int)) := rfl
      have e2 : rgV 0 n = (List.range n.toNat).map fun i => V.int (0 + (i : Nat)) := by
        unfold rgV; rw [Int.sub_zero]
      rw [e2]
      refine fs_new h1 g1 m1 ?_ (rangeV_rep 0 _)
      rw [List.length_map, List.length_range]; omega
    · exact False.elim h1
  · exact False.elim h1
theorem mf_list (c : CxF X K) (hg : ∀ i, Gl (X i) "list") (hm : ∀ i, (X i).mg "list" = none) (ha : MA X K EW [a] (aCons ma aNil)) (he : ∀ i, starEach [a] (X i).env = (false, eval a (X i).env) :: starEach [] (X i).env := by intro _; rfl) (hpl : ∀ i, (backTo pos (starEach [] (X i).env)).any (·.1) = false := by intro _; rfl) :
    MF X K EW (.Call (.Name "list" p) [a] [] pos) (fList ma) := by
  obtain ⟨ta, pa, sa⟩ := ha.ex
  refine ⟨⟨tCB (fun xs H Q => ∃ p ys, xs = [.ref p] ∧ (SqL K H p ys ∨ SqT K H p ys) ∧ ∀ l, H l = none → Q (.ref l) (upd H l (.lst ys))) ta,
    fun i => c.kk i ▸ pe_callTy call_list_of (hg i) (hm i) (by decide +kernel) (pa i) (he := he i) (hpl := hpl i), fun σ H ρ μ s Q hr m h => ?_⟩⟩
  have h2 : ((aCons ma aNil) ρ s).wp (fun xs s1 => ∃ x ys, xs = [x] ∧ asQ s1 x = some ys ∧ FsP K μ H Q ys s1) (XP K μ H EW) := by
    unfold aCons
    have h := wp_bind h
    cases e1 : ma ρ s with
    | ok x s1 =>
      rw [e1] at h
      cases e2 : asQ s1 x with
      | none => simp only [R.wp, e2] at h
      | some ys =>
        simp only [R.wp, e2] at h
        exact ⟨x, ys, rfl, e2, h⟩
    | ex e s1 => rw [e1] at h; exact h
    | no => rw [e1] at h; exact h
  refine sa σ H ρ μ s _ hr m (wp_mono h2 (fun v s1 h1 => ?_) fun _ _ q => q)
  obtain ⟨x, ys, ev, ea, h1⟩ := h1
  intro xs H1 μ1 g1 m1 r1
  rw [ev] at r1
  obtain ⟨y, ey, ry⟩ := all1 r1
  obtain ⟨q, vs, eq, hq, hl, hrr⟩ := rep_asQ m1 ry ea
  exact ⟨q, vs, by rw [ey, eq], hq, fs_new h1 g1 m1 hl hrr⟩
/-- tuple(a new list) -/
theorem me_tupleF (c : CxF X K) (hg : ∀ i, Gl (X i) "tuple") (hm : ∀ i, (X i).mg "tuple" = none) (hf : MF X K EW a mf) (hs : ∀ i, starEach [a] (X i).env = (false, eval a (X i).env) :: starEach [] (X i).env := by intro _; rfl) (hpl : ∀ i, (backTo pos (starEach [] (X i).env)).any (·.1) = false := by intro _; rfl) :
    ME X K EW (.Call (.Name "tuple" p) [a] [] pos) (eTupleF mf) := by
  obtain ⟨ta, pa, sa⟩ := hf.ex
  refine ⟨⟨tCB (rTupOf K) (tCons ta tNil),
    fun i => c.kk i ▸ pe_callTy call_tupF (hg i) (hm i) (by decide +kernel) (pa_cons (pa i) pa_nil (hs i)) (he := hs i) (hpl := hpl i), fun σ H ρ μ s Q hr m h => ?_⟩⟩
  refine sa σ H ρ μ s _ hr m (wp_mono (wp_bind h) (fun v s1 h1 => ?_) fun _ _ q => q)
  intro q vs H' μ' g m' hq hh e hl r
  have off : Off μ' q := m'.offHid hh
  refine ⟨q, vs, rfl, .inl ⟨.of e, fun l u hl' tu => ?_⟩⟩
  have g2 : Grow μ H μ' H' := g.unhide (m.off hq)
  have g3 : Grow μ' H' μ' (upd H' l u) := m'.unhide.new hl'
  refine h1 _ _ μ' (g2.trans g3) (m'.unhide.upd_new hl') ?_
  unfold Rep
  exact ⟨l, vs, rfl, .of upd_same tu, hl, RepAll.mono g3 m'.unhide _ _ r.unhide⟩
theorem ns_of {s : S} {v : Val} {xs : List Val} (e : asLn s v = some xs) : ∀ ys, v ≠ .scr ys := by
  intro ys h
  rw [h] at e
  cases e
theorem mf_add (ha : ME X K EW a ma) (hb : ME X K EW b mb) : MF X K EW (.BinOp a .Add b pos) (fAdd ma mb) := by
  obtain ⟨ta, pa, sa⟩ := ha.ex
  obtain ⟨tb, pb, sb⟩ := hb.ex
  refine ⟨⟨_, fun i => pe_op op_cat (pa i) (pb i), fun σ H ρ μ s Q hr m h => ?_⟩⟩
  refine sa σ H ρ μ s _ hr m (wp_mono (wp_bind h) (fun v s1 h1 => ?_) fun _ _ q => q)
  intro x H1 μ1 g1 m1 r1
  refine sb σ H1 ρ μ1 s1 _ (hr.mono g1 m) m1 (wp_mono (wp_bind h1) (fun u s2 h2 => ?_) fun _ _ q => q.mono g1)
  intro y H2 μ2 g2 m2 r2
  split at h2
  · rename_i xs ys e1 e2
    split at h2
    · rename_i hl
      obtain ⟨q1, vs, eq1, hq1, l1, rr1⟩ := rep_asL' m2 (Rep.mono g2 m1 v x r1) (asLn_asL e1) (ns_of e1)
      obtain ⟨q2, ws, eq2, hq2, l2, rr2⟩ := rep_asL' m2 r2 (asLn_asL e2) (ns_of e2)
      refine ⟨q1, q2, vs, ws, eq1, eq2, hq1, hq2, by rw [rr1.length, rr2.length]; exact hl, fs_new h2 (g1.trans g2) m2 (by rw [List.length_append, rr1.length, rr2.length]; exact hl) (rr1.append rr2)⟩
    · exact False.elim h2
  · exact False.elim h2
theorem repRep {H : Hp} {μ : Mu} {xs : List Val} {vs : List V} (h : RepAll K H μ xs vs) : ∀ n : Nat, RepAll K H μ (List.replicate n xs).flatten (List.replicate n vs).flatten
  | 0 => .nil
  | n + 1 => by
    simp only [List.replicate_succ, List.flatten_cons]
    exact h.append (repRep h n)
theorem mf_mul (ha : ME X K EW a ma) (hb : ME X K EW b mb) : MF X K EW (.BinOp a .Mult b pos) (fMul ma mb) := by
  obtain ⟨ta, pa, sa⟩ := ha.ex
  obtain ⟨tb, pb, sb⟩ := hb.ex
  refine ⟨⟨_, fun i => pe_op op_rep (pa i) (pb i), fun σ H ρ μ s Q hr m h => ?_⟩⟩
  refine sa σ H ρ μ s _ hr m (wp_mono (wp_bind h) (fun v s1 h1 => ?_) fun _ _ q => q)
  intro x H1 μ1 g1 m1 r1
  refine sb σ H1 ρ μ1 s1 _ (hr.mono g1 m) m1 (wp_mono (wp_bind h1) (fun u s2 h2 => ?_) fun _ _ q => q.mono g1)
  intro y H2 μ2 g2 m2 r2
  split at h2
  · rename_i xs j e1
    split at h2
    · rename_i hl
      obtain ⟨q1, vs, eq1, hq1, l1, rr1⟩ := rep_asL' m2 (Rep.mono g2 m1 v x r1) (asLn_asL e1) (ns_of e1)
      have el : (List.replicate j.toNat vs).flatten.length = vs.length * j.toNat := by
        rw [List.length_flatten, List.map_replicate, List.sum_replicate_nat, Nat.mul_comm]
      exact ⟨q1, j, vs, eq1, rep_int r2, hq1, hl.1, hl.2.1, by rw [rr1.length]; exact hl.2.2, fs_new h2 (g1.trans g2) m2 (by rw [el, rr1.length]; exact hl.2.2) (repRep rr1 _)⟩
    · exact False.elim h2
  · exact False.elim h2
end
end FM

set_option autoImplicit false
/-! lists that change; methods; repr; sorted -/
namespace FM
open PySem PySem.Spec PyProof.Rows L2
section
variable {K : PySem.W.Frag} {H : Hp} {μ : Mu} {s : S}
theorem flat_lk : ∀ {l : List (List Addr)} {f n : Nat} {a : Addr}, lk l f n = some a → a ∈ l.flatten
  | l, f, n, a, h => by
    obtain ⟨fr, hf, ha⟩ := lk_mem h
    exact List.mem_flatten.mpr ⟨fr, hf, ha⟩
theorem lk_inj : ∀ {l : List (List Addr)} {f n k m : Nat} {a : Addr}, l.flatten.Nodup → lk l f n = some a → lk l k m = some a → f = k ∧ n = m
  | [], _, _, _, _, _, _, h, _ => by simp [lk] at h
  | fr :: r, f, n, k, m, a, nd, h1, h2 => by
    rw [List.flatten_cons, List.nodup_append] at nd
    obtain ⟨n1, n2, n3⟩ := nd
    unfold lk at h1 h2
    split at h1
    · rename_i ef
      split at h2
      · rename_i ek
        refine ⟨by rw [ef, ek], ?_⟩
        obtain ⟨l1, e1⟩ := List.getElem?_eq_some_iff.mp h1
        obtain ⟨l2, e2⟩ := List.getElem?_eq_some_iff.mp h2
        exact (List.getElem_inj n1).mp (e1.trans e2.symm)
      · exact (n3 a (List.mem_of_getElem? h1) a (flat_lk h2) rfl).elim
    · split at h2
      · exact (n3 a (List.mem_of_getElem? h2) a (flat_lk h1) rfl).elim
      · exact lk_inj n2 h1 h2
theorem lk_up : ∀ {s : S} {k n : Nat} {c c' : Cell} {f m : Nat}, lk s k n = some c' → lk (up s k n c) f m = if f = k ∧ m = n then some c else lk s f m
  | [], _, _, _, _, _, _, h => by simp [lk] at h
  | fr :: r, k, n, c, c', f, m, h => by
    unfold lk at h
    unfold up
    split at h
    · rename_i ek
      rw [if_pos ek]
      unfold lk
      by_cases ef : f = r.length
      · rw [if_pos ef, if_pos ef]
        by_cases em : m = n
        · subst em
          rw [if_pos ⟨ef.trans ek.symm, rfl⟩]
          exact List.getElem?_set_self (List.getElem?_eq_some_iff.mp h).1
        · rw [if_neg (fun q => em q.2)]
          exact List.getElem?_set_ne (Ne.symm em)
      · rw [if_neg ef, if_neg ef, if_neg (fun q => ef (q.1.trans ek))]
    · rename_i ek
      rw [if_neg ek]
      have hl : ∀ (s : S) (k n : Nat) (c : Cell), (up s k n c).length = s.length := by
        intro s
        induction s with
        | nil => intros; rfl
        | cons a b ih =>
          intro k n c
          unfold up
          split
          · rfl
          · simp [ih]
      unfold lk
      rw [hl]
      by_cases ef : f = r.length
      · rw [if_pos ef, if_pos ef, if_neg (fun q => ek (q.1.symm.trans ef))]
      · rw [if_neg ef, if_neg ef]
        exact lk_up h
theorem up_shape : ∀ (s : S) (k n : Nat) (c : Cell), (up s k n c).map List.length = s.map List.length
  | [], _, _, _ => rfl
  | fr :: r, k, n, c => by
    unfold up
    split
    · simp
    · simp [up_shape r k n c]
theorem up_length (s : S) (k n : Nat) (c : Cell) : (up s k n c).length = s.length := by
  have := congrArg List.length (up_shape s k n c); simpa using this
/-- a live list is changed -/
theorem Mem.upd (m : Mem K H μ s) {k n : Nat} {a : Addr} {xs ys : List Val} {ws : List V} (e1 : lk μ.fr k n = some a) (e2 : lk s k n = some (.lst xs)) (hl : ws.length ≤ sizeLine) (hr : RepAll K H μ ys ws) (hb : belowAll (k + 1) ys = true) :
    Mem K (upd H a (.lst ws)) μ (up s k n (.lst ys)) ∧ Grow μ H μ (upd H a (.lst ws)) := by
  obtain ⟨fr, hfr, ha⟩ := lk_mem e1
  have no : ¬ Off μ a := fun q => q.1 fr hfr ha
  have hv := m.live hfr ha
  have nh : ¬ μ.hid a := m.sep fr hfr a ha
  refine ⟨⟨by rw [up_shape]; exact m.shp, m.nd, m.sep, fun f j b c q1 q2 => ?_, fun f j c q2 => ?_, fun b hb' => ?_⟩, ⟨[], exts_nil.symm, by simp⟩, fun _ h => .inr h, fun _ h => h, fun b o ho e => ?_, fun f hf b hb' => ?_, fun b hb' => ?_⟩
  · rw [lk_up e2] at q2
    by_cases eq : f = k ∧ j = n
    · rw [if_pos eq] at q2
      cases q2
      rw [eq.1, eq.2, e1] at q1
      cases q1
      exact ⟨ws, upd_same, hl, RepAll.upd no hv _ _ hr⟩
    · rw [if_neg eq] at q2
      have ne : b ≠ a := fun z => by
        rw [z] at q1
        exact eq (lk_inj m.nd q1 e1)
      have q := m.cel f j b c q1 q2
      cases c with
      | lst zs =>
        obtain ⟨us, e, hl, hr⟩ := q
        exact ⟨us, by rw [upd_ne ne]; exact e, hl, RepAll.upd no hv _ _ hr⟩
      | dct _ _ => exact q.elim
  · rw [lk_up e2] at q2
    by_cases eq : f = k ∧ j = n
    · rw [if_pos eq] at q2
      cases q2
      rw [eq.1]; exact hb
    · rw [if_neg eq] at q2
      exact m.bel f j c q2
  · have ne : b ≠ a := fun z => nh (by rw [← z]; exact hb')
    rw [upd_ne ne]; exact m.hd b hb'
  · rw [upd_ne (fun z => no (by rw [← z]; exact ho))]; exact e
  · by_cases z : b = a
    · exact ⟨_, by rw [z]; exact upd_same⟩
    · obtain ⟨us, e⟩ := m.live hf hb'
      exact ⟨_, by rw [upd_ne z]; exact e⟩
  · exact upd_ne (fun z => nh (by rw [← z]; exact hb'))
theorem belowAll_append : ∀ {k : Nat} {xs ys : List Val}, belowAll k (xs ++ ys) = (belowAll k xs && belowAll k ys)
  | _, [], _ => by simp [belowAll]
  | k, x :: xs, ys => by
    simp only [List.cons_append, belowAll, belowAll_append, Bool.and_assoc]
theorem belowAll_mem {k : Nat} : ∀ {xs : List Val}, belowAll k xs = true ↔ ∀ x ∈ xs, below k x = true
  | [] => by simp [belowAll]
  | x :: xs => by
    simp only [belowAll, Bool.and_eq_true, belowAll_mem, List.mem_cons, forall_eq_or_imp]
theorem below_mono : ∀ {k j : Nat} (v : Val), k ≤ j → below k v = true → below j v = true := by
  intro k j v hkj
  refine Val.rec (motive_1 := fun v => below k v = true → below j v = true) (motive_2 := fun vs => belowAll k vs = true → belowAll j vs = true) ?_ ?_ ?_ ?_ ?_ ?_ ?_ ?_ ?_ ?_ ?_ v <;> intros <;> simp_all [below, belowAll]
  omega
end

/-- a method that changes a live list -/
def ChS {ι : Type} (X : ι → Cx) (K : PySem.W.Frag) (id : String) (f : S → List Val → List Val → Option (List Val)) : Prop :=
  ∃ r, (∀ i, MtR (X i) id r) ∧
    (∀ (l : Addr) (args : List V) (H : Hp) (μ : Mu) (s : S) (as xs ys : List Val) (vs : List V), H l = some (.lst vs) → vs.length ≤ sizeLine → RepAll K H μ xs vs → RepAll K H μ as args → f s as xs = some ys →
      ∃ ws, RepAll K H μ ys ws ∧ ws.length ≤ sizeLine ∧ ∀ Q : VK, Q .non (upd H l (.lst ws)) → r (.ref l) args H Q) ∧
    ∀ (s : S) (k : Nat) (as xs ys : List Val), f s as xs = some ys → belowAll k as = true → belowAll k xs = true → belowAll k ys = true
section
variable {ι : Type} {X : ι → Cx} {K : PySem.W.Frag} {EW : XK} {a b e o i : Expr} {es : List Expr} {ma mb mo me mi : Ex} {mas : Ax} {mf : Fx} {pos p apos cpos : Pos} {name : PySem.Str} {id : String}
theorem chg_snd {H : Hp} {μ : Mu} {s : S} {v : Val} {x : V} {as : List Val} {args : List V} {f : List Val → Option (List Val)} {Q : VK} {E : Exn → S → Prop} {r : V → List V → Hp → VK → Prop} (m : Mem K H μ s) (rx : Rep K H μ v x) (ra : belowAll μ.fr.length as = true)
    (hf : ∀ (l : Addr) (xs ys : List Val) (vs : List V), H l = some (.lst vs) → vs.length ≤ sizeLine → RepAll K H μ xs vs → f xs = some ys → ∃ ws, RepAll K H μ ys ws ∧ ws.length ≤ sizeLine ∧ ∀ Q : VK, Q .non (upd H l (.lst ws)) → r (.ref l) args H Q)
    (hb : ∀ (k : Nat) (xs ys : List Val), f xs = some ys → belowAll k as = true → belowAll k xs = true → belowAll k ys = true)
    (h : (chg s v f as).wp (VP K μ H Q) E) : (∃ l vs, x = .ref l ∧ H l = some (.lst vs)) ∧ r x args H Q := by
  unfold chg at h
  split at h
  · rename_i k n
    unfold Rep at rx
    obtain ⟨l, ex, el⟩ := rx
    split at h
    · rename_i xs e2
      split at h
      · rename_i ys ey
        split at h
        · rename_i hc
          obtain ⟨vs, hv, hl, hrr⟩ := m.cel k n l _ el e2
          obtain ⟨ws, hw, hwl, hq⟩ := hf l xs ys vs hv hl hrr ey
          have b1 : belowAll (k + 1) as = true := by
            rcases hc with hc | hc
            · have q := ra
              rw [m.len, ← hc] at q
              exact q
            · exact hc
          obtain ⟨m2, g2⟩ := m.upd el e2 hwl hw (hb (k + 1) xs ys ey b1 (m.bel k n _ e2))
          rw [ex]
          exact ⟨⟨l, vs, rfl, hv⟩, hq Q (h _ _ μ g2 m2 rep_of_non)⟩
        · exact h.elim
      · exact h.elim
    · exact h.elim
  · exact h.elim
theorem me_chg {f : S → List Val → List Val → Option (List Val)} (o' : ChS X K id f) (slot : Slot "list" name id) (hty : typeOf (.builtin id) = Pure.pure (.type "method_descriptor")) (ho : ME X K EW o mo) (ha : MA X K EW (e :: es) mas)
    (hbase : ∀ i, attributeBase o name (X i).env (eval o (X i).env) = eval o (X i).env := by intro _; rfl)
    (hfew : ∀ i, ((backTo cpos (starEach (e :: es) (X i).env)).all (fun x => !x.1) && (backToKw cpos (keywordEach [] (X i).env)).all (fun x => x.1.isSome)
      && decide ((e :: es).length + ([] : List Keyword).length + (if ([] : List Keyword).isEmpty then 0 else 1) < 30)) = true := by intro _; rfl)
    (hline : (apos.endLine == cpos.line) = true := by rfl) (hs : ∀ i, starEach (e :: es) (X i).env = (false, eval e (X i).env) :: starEach es (X i).env := by intro _; rfl) (hplain : ∀ i, (backTo cpos (starEach es (X i).env)).any (·.1) = false := by intro _; rfl)
    (c : CxF X K) : ME X K EW (.Call (.Attribute o name apos) (e :: es) [] cpos) (eChg f mo mas) := by
  obtain ⟨to', po, so⟩ := ho.ex
  obtain ⟨ta, pa, sa⟩ := ha.ex
  obtain ⟨r, pr, sr, sb⟩ := o'
  refine ⟨⟨tBM K "list" r to' ta, fun i => c.kk i ▸ pe_bm PySem.F.plainAttrs_list slot hty (pr i) (po i) (pa i) (hbase := hbase i) (hfew := hfew i) (hline := hline) (hs := hs i) (hplain := hplain i), fun σ H ρ μ s Q hr m h => ?_⟩⟩
  refine so σ H ρ μ s _ hr m (wp_mono (wp_bind h) (fun v s1 h1 => ?_) fun _ _ q => q)
  intro x H1 μ1 g1 m1 r1
  split at h1
  · rename_i hL
    obtain ⟨zs, ez⟩ := Option.isSome_iff_exists.mp hL
    obtain ⟨l, vs, ex, hq, _, _⟩ := rep_asL m1 r1 ez
    refine ⟨by rw [ex]; exact .inl ⟨rfl, vs, hq⟩, ?_⟩
    refine sa σ H1 ρ μ1 s1 _ (hr.mono g1 m) m1 (wp_mono (wp_bind h1) (fun as s2 h2 => ?_) fun _ _ q => q.mono g1)
    intro xs H2 μ2 g2 m2 r2
    have h3 : (chg s2 v (f s2 as) as).wp (VP K μ2 H2 Q) (XP K μ2 H2 EW) := wp_mono h2 (fun _ _ q => q.mono (g1.trans g2)) fun _ _ q => q.mono (g1.trans g2)
    exact (chg_snd m2 (Rep.mono g2 m1 v x r1) (repAll_below _ _ r2) (fun l xs' ys vs hv hl hx hy => sr l xs H2 μ2 s2 as xs' ys vs hv hl hx r2 hy) (fun k xs' ys hy b1 b2 => sb s2 k as xs' ys hy b1 b2) h3).2
  · exact False.elim h1
theorem ch_append : ChS X K "list.append" cAppend := by
  refine ⟨_, fun _ => mt_append, fun l args H μ s as xs ys vs hv hvl hx ha e => ?_, fun s k as xs ys e b1 b2 => ?_⟩
  · unfold cAppend at e
    split at e
    · rename_i y _
      split at e
      · rename_i hl
        cases e
        obtain ⟨w, ew, rw'⟩ := all1 ha
        exact ⟨vs ++ [w], hx.append (.one rw'), by rw [List.length_append, hx.length]; simp; omega, fun Q q => ⟨l, vs, w, rfl, ew, hv, by rw [hx.length]; exact hl, q⟩⟩
      · cases e
    · cases e
  · unfold cAppend at e
    split at e
    · split at e
      · cases e
        rw [belowAll_append, b2, b1]; rfl
      · cases e
    · cases e
theorem ch_insert : ChS X K "list.insert" cInsert := by
  refine ⟨_, fun _ => mt_insert, fun l args H μ s as xs ys vs hv hvl hx ha e => ?_, fun s k as xs ys e b1 b2 => ?_⟩
  · unfold cInsert at e
    split at e
    · rename_i n y
      split at e
      · rename_i hl
        cases e
        obtain ⟨w1, w2, ew, r1, r2⟩ := all2 ha
        refine ⟨vs.take n.toNat ++ [w2] ++ vs.drop n.toNat, ((hx.take _).append (.one r2)).append (hx.drop _), ?_, fun Q q => ⟨l, vs, n, w2, rfl, by rw [ew, rep_int r1], hv, by rw [hx.length]; exact hl.1, hl.2.1, hl.2.2, q⟩⟩
        have := hx.length
        have := hl.1
        simp only [List.length_append, List.length_take, List.length_drop, List.length_cons, List.length_nil]
        omega
      · cases e
    · cases e
  · unfold cInsert at e
    split at e
    · rename_i n y
      split at e
      · cases e
        simp only [belowAll, Bool.and_eq_true] at b1
        rw [belowAll_mem] at b2 ⊢
        intro x hx
        rcases List.mem_append.mp hx with hx | hx
        · rcases List.mem_append.mp hx with hx | hx
          · exact b2 x (List.mem_of_mem_take hx)
          · rw [List.mem_singleton.mp hx]; exact b1.2.1
        · exact b2 x (List.mem_of_mem_drop hx)
      · cases e
    · cases e
theorem idxOf_first {k : Int} : ∀ {ns : List Int}, k ∈ ns → ns[ns.idxOf k]? = some k ∧ ∀ m : Nat, m < ns.idxOf k → ns[m]? ≠ some k := by
  intro ns hk
  have hlt := List.idxOf_lt_length_iff.mpr hk
  refine ⟨by rw [List.getElem?_eq_getElem hlt, List.getElem_idxOf hlt], fun m hm e => ?_⟩
  obtain ⟨hl, ee⟩ := List.getElem?_eq_some_iff.mp e
  exact PySem.SeqAt.lt_idxOf_ne hm hl ee
theorem ch_remove : ChS X K "list.remove" cRemove := by
  refine ⟨_, fun _ => mt_remove, fun l args H μ s as xs ys vs hv hvl hx ha e => ?_, fun s k as xs ys e b1 b2 => ?_⟩
  · unfold cRemove at e
    split at e
    · rename_i k
      cases en : intsOf xs with
      | none => rw [en] at e; cases e
      | some ns =>
        rw [en] at e
        simp only [Option.bind_some, remI] at e
        split at e
        · rename_i hk
          cases e
          obtain ⟨ev, exs⟩ := intsOf_rep hx en
          obtain ⟨w, ew, rw'⟩ := all1 ha
          obtain ⟨f1, f2⟩ := idxOf_first hk
          refine ⟨(ns.eraseIdx (ns.idxOf k)).map V.int, repInts _, ?_, fun Q q => ⟨l, ns, k, ns.idxOf k, rfl, by rw [ew, rep_int rw'], by rw [hv, ev], f1, f2, q⟩⟩
          have := congrArg List.length ev
          rw [List.length_map] at this ⊢
          exact Nat.le_trans (List.length_eraseIdx_le _ _) (by omega)
        · cases e
    · cases e
  · unfold cRemove at e
    split at e
    · rename_i k'
      cases en : intsOf xs with
      | none => rw [en] at e; cases e
      | some ns =>
        rw [en] at e
        cases er : remI k' ns with
        | none => simp only [Option.bind_some, er] at e; cases e
        | some ms =>
          simp only [Option.bind_some, er] at e
          cases e
          rw [belowAll_mem]
          intro x hx
          obtain ⟨i, _, ei⟩ := List.mem_map.mp hx
          rw [← ei]
          simp [below]
    · cases e
/-- xs.extend(a new list) -/
theorem me_extF (ho : ME X K EW o mo) (hf : MF X K EW e mf)
    (hbase : ∀ i, attributeBase o "extend" (X i).env (eval o (X i).env) = eval o (X i).env := by intro _; rfl)
    (hfew : ∀ i, ((backTo cpos (starEach [e] (X i).env)).all (fun x => !x.1) && (backToKw cpos (keywordEach [] (X i).env)).all (fun x => x.1.isSome)
      && decide ([e].length + ([] : List Keyword).length + (if ([] : List Keyword).isEmpty then 0 else 1) < 30)) = true := by intro _; rfl)
    (hline : (apos.endLine == cpos.line) = true := by rfl) (hs : ∀ i, starEach [e] (X i).env = (false, eval e (X i).env) :: starEach [] (X i).env := by intro _; rfl) (hplain : ∀ i, (backTo cpos (starEach [] (X i).env)).any (·.1) = false := by intro _; rfl)
    (c : CxF X K) : ME X K EW (.Call (.Attribute o "extend" apos) [e] [] cpos) (eExtend mo mf) := by
  obtain ⟨to', po, so⟩ := ho.ex
  obtain ⟨ta, pa, sa⟩ := hf.ex
  refine ⟨⟨tBM K "list" rExtend to' (tCons ta tNil), fun i => c.kk i ▸ pe_bm PySem.F.plainAttrs_list PySem.F.slot_list_extend PySem.F.type_list_extend mt_extend (po i) (pa_cons (pa i) pa_nil (hs i)) (hbase := hbase i) (hfew := hfew i) (hline := hline) (hs := hs i) (hplain := hplain i), fun σ H ρ μ s Q hr m h => ?_⟩⟩
  refine so σ H ρ μ s _ hr m (wp_mono (wp_bind h) (fun v s1 h1 => ?_) fun _ _ q => q)
  intro x H1 μ1 g1 m1 r1
  split at h1
  · rename_i hL
    obtain ⟨zs, ez⟩ := Option.isSome_iff_exists.mp hL
    obtain ⟨l, vs, ex, hq, _, _⟩ := rep_asL m1 r1 ez
    refine ⟨by rw [ex]; exact .inl ⟨rfl, vs, hq⟩, ?_⟩
    refine sa σ H1 ρ μ1 s1 _ (hr.mono g1 m) m1 (wp_mono (wp_bind h1) (fun ys s2 h2 => ?_) fun _ _ q => q.mono g1)
    intro q us H2 μ2 g2' m2' hq0 hh e2 hl r2
    have g2 : Grow μ1 H1 μ2 H2 := g2'.unhide (m1.off hq0)
    have m2 := m2'.unhide
    have h3 : (chg s2 v (fun xs => if xs.length + ys.length ≤ sizeLine then some (xs ++ ys) else none) ys).wp (VP K μ2 H2 Q) (XP K μ2 H2 EW) := wp_mono h2 (fun _ _ q => q.mono (g1.trans g2)) fun _ _ q => q.mono (g1.trans g2)
    refine (chg_snd (r := rExtend) (args := [.ref q]) m2 (Rep.mono g2 m1 v x r1) (repAll_below _ _ r2.unhide) (fun l xs zs vs hv hvl hx hy => ?_) (fun k xs zs hy b1 b2 => ?_) h3).2
    · split at hy
      · rename_i hlen
        cases hy
        refine ⟨vs ++ us, hx.append r2.unhide, by rw [List.length_append, hx.length, r2.length]; exact hlen, fun Q q' => ⟨l, q, vs, us, rfl, rfl, hv, e2, by rw [hx.length, r2.length]; exact hlen, q'⟩⟩
      · cases hy
    · split at hy
      · cases hy
        rw [belowAll_append, b1, b2]; rfl
      · cases hy
  · exact False.elim h1
/-- order.index(k) -/
theorem int_idx {H : Hp} {μ : Mu} {ns : List Int} {k : Int} (hk : k ∈ ns) : (ns.map V.int)[ns.idxOf k]? = some (.int k) ∧ ∀ (m : Nat) (z : V), m < ns.idxOf k → (ns.map V.int)[m]? = some z → eqV z (.int k) = false := by
  obtain ⟨f1, f2⟩ := idxOf_first hk
  refine ⟨by rw [List.getElem?_map, f1]; rfl, fun m z hm hz => ?_⟩
  rw [List.getElem?_map] at hz
  cases en : ns[m]? with
  | none => rw [en] at hz; cases hz
  | some j =>
    rw [en] at hz
    cases hz
    have := f2 m hm
    rw [en] at this
    show (j == k) = false
    exact beq_eq_false_iff_ne.mpr fun e => this (by rw [e])
theorem me_idxL (ho : ME X K EW o mo) (ha : MA X K EW (e :: es) mas)
    (hbase : ∀ i, attributeBase o "index" (X i).env (eval o (X i).env) = eval o (X i).env := by intro _; rfl)
    (hfew : ∀ i, ((backTo cpos (starEach (e :: es) (X i).env)).all (fun x => !x.1) && (backToKw cpos (keywordEach [] (X i).env)).all (fun x => x.1.isSome)
      && decide ((e :: es).length + ([] : List Keyword).length + (if ([] : List Keyword).isEmpty then 0 else 1) < 30)) = true := by intro _; rfl)
    (hline : (apos.endLine == cpos.line) = true := by rfl) (hs : ∀ i, starEach (e :: es) (X i).env = (false, eval e (X i).env) :: starEach es (X i).env := by intro _; rfl) (hplain : ∀ i, (backTo cpos (starEach es (X i).env)).any (·.1) = false := by intro _; rfl)
    (c : CxF X K) : ME X K EW (.Call (.Attribute o "index" apos) (e :: es) [] cpos) (eMeth bIndex mo mas) := by
  obtain ⟨to', po, so⟩ := ho.ex
  obtain ⟨ta, pa, sa⟩ := ha.ex
  refine ⟨⟨tBM K "list" (rIndex K) to' ta, fun i => c.kk i ▸ pe_bm PySem.F.plainAttrs_list PySem.F.slot_list_index PySem.F.type_list_index mt_index (po i) (pa i) (hbase := hbase i) (hfew := hfew i) (hline := hline) (hs := hs i) (hplain := hplain i), fun σ H ρ μ s Q hr m h => ?_⟩⟩
  refine so σ H ρ μ s _ hr m (wp_mono (wp_bind h) (fun v s1 h1 => ?_) fun _ _ q => q)
  intro x H1 μ1 g1 m1 r1
  split at h1
  · rename_i hL
    obtain ⟨zs, ez⟩ := Option.isSome_iff_exists.mp hL
    obtain ⟨l, vs, ex, hq, _, _⟩ := rep_asL m1 r1 ez
    refine ⟨by rw [ex]; exact .inl ⟨rfl, vs, hq⟩, ?_⟩
    refine sa σ H1 ρ μ1 s1 _ (hr.mono g1 m) m1 (wp_mono (wp_bind h1) (fun as s2 h2 => ?_) fun _ _ q => q.mono g1)
    intro xs H2 μ2 g2 m2 r2
    obtain ⟨w, e, q⟩ := wp_ofO h2
    unfold bIndex at e
    split at e
    · rename_i k
      cases ea : asL s2 v with
      | none => rw [ea] at e; cases e
      | some ys =>
        rw [ea] at e
        cases en : intsOf ys with
        | none => simp only [Option.bind_some, en] at e; cases e
        | some ns =>
          simp only [Option.bind_some, en] at e
          split at e
          · rename_i hk
            cases e
            obtain ⟨l', us, ex', hq', hl', hr'⟩ := rep_asL m2 (Rep.mono g2 m1 v x r1) ea
            obtain ⟨ev, _⟩ := intsOf_rep hr' en
            obtain ⟨y, ey, ry⟩ := all1 r2
            obtain ⟨i1, i2⟩ := int_idx (H := H2) (μ := μ2) hk
            refine ⟨l', us, .int k, ns.idxOf k, .int k, ex', by rw [ey, rep_int ry], hq', rfl, ?_, by rw [ev]; exact i1, ?_, by rw [ev]; exact i2, q _ H2 μ2 (g1.trans g2) m2 rep_of_int⟩
            · rw [ev, List.all_map]; exact List.all_eq_true.mpr fun _ _ => rfl
            · show (k == k) = true
              exact beq_self_eq_true k
          · cases e
    · cases e
  · exact False.elim h1
end
/-! ### tuples' index -/
def rIdxT (K : PySem.W.Frag) : V → List V → Hp → VK → Prop := fun x xs H Q => ∃ (p : Addr) (ns : List Int) (k : Int), x = .ref p ∧ xs = [.int k] ∧ SqT K H p (ns.map V.int) ∧ k ∈ ns ∧ Q (.int (ns.idxOf k : Nat)) H
theorem mt_idxT {X : Cx} : MtR X "tuple.index" (rIdxT X.K) := by
  intro pins s σ H x xs v us Q I rx rxs h
  obtain ⟨p, ns, k, rfl, rfl, hq, hk, q⟩ := h
  cases rx
  cases rxs with
  | cons ry rt =>
    cases rt
    obtain ⟨t, rfl⟩ := ry
    obtain ⟨its, rv, pt, hz⟩ := I.tuple hq
    exact PySem.SeqAt.call_tuple_index (s := s) pt (.ints rv.ints) hk ⟨.int (ns.idxOf k : Nat), H, I.tok _, ⟨_, rfl⟩, q⟩
section
variable {ι : Type} {X : ι → Cx} {K : PySem.W.Frag} {EW : XK} {e o : Expr} {es : List Expr} {mo : Ex} {mas : Ax} {apos cpos : Pos}
theorem me_idxT (ho : ME X K EW o mo) (ha : MA X K EW (e :: es) mas)
    (hbase : ∀ i, attributeBase o "index" (X i).env (eval o (X i).env) = eval o (X i).env := by intro _; rfl)
    (hfew : ∀ i, ((backTo cpos (starEach (e :: es) (X i).env)).all (fun x => !x.1) && (backToKw cpos (keywordEach [] (X i).env)).all (fun x => x.1.isSome)
      && decide ((e :: es).length + ([] : List Keyword).length + (if ([] : List Keyword).isEmpty then 0 else 1) < 30)) = true := by intro _; rfl)
    (hline : (apos.endLine == cpos.line) = true := by rfl) (hs : ∀ i, starEach (e :: es) (X i).env = (false, eval e (X i).env) :: starEach es (X i).env := by intro _; rfl) (hplain : ∀ i, (backTo cpos (starEach es (X i).env)).any (·.1) = false := by intro _; rfl)
    (c : CxF X K) : ME X K EW (.Call (.Attribute o "index" apos) (e :: es) [] cpos) (eMethT bIndexT mo mas) := by
  obtain ⟨to', po, so⟩ := ho.ex
  obtain ⟨ta, pa, sa⟩ := ha.ex
  refine ⟨⟨tMG (tyTup K) (rIdxT K) to' ta, fun i => c.kk i ▸ pe_mG ty_tup PySem.F.plainAttrs_tuple PySem.F.slot_tuple_index PySem.F.type_tuple_index mt_idxT (po i) (pa i) (hbase := hbase i) (hfew := hfew i) (hline := hline) (hs := hs i) (hplain := hplain i), fun σ H ρ μ s Q hr m h => ?_⟩⟩
  refine so σ H ρ μ s _ hr m (wp_mono (wp_bind h) (fun v s1 h1 => ?_) fun _ _ q => q)
  intro x H1 μ1 g1 m1 r1
  split at h1
  · rename_i hL
    cases v with
    | tup zs =>
      obtain ⟨l, vs, ex, hq, _, _⟩ := rep_tup r1
      refine ⟨⟨l, vs, ex, hq⟩, ?_⟩
      refine sa σ H1 ρ μ1 s1 _ (hr.mono g1 m) m1 (wp_mono (wp_bind h1) (fun as s2 h2 => ?_) fun _ _ q => q.mono g1)
      intro xs H2 μ2 g2 m2 r2
      obtain ⟨w, e, q⟩ := wp_ofO h2
      unfold bIndexT at e
      split at e
      · rename_i k
        cases en : intsOf zs with
        | none => simp only [asT, Option.bind_some, en] at e; cases e
        | some ns =>
          simp only [asT, Option.bind_some, en] at e
          split at e
          · rename_i hk
            cases e
            obtain ⟨l', us, ex', hq', hl', hr'⟩ := rep_tup (Rep.mono g2 m1 _ x r1)
            obtain ⟨ev, _⟩ := intsOf_rep hr' en
            obtain ⟨y, ey, ry⟩ := all1 r2
            exact ⟨l', ns, k, ex', by rw [ey, rep_int ry], by rw [← ev]; exact hq'.sqT, hk, q _ H2 μ2 (g1.trans g2) m2 rep_of_int⟩
          · cases e
      · cases e
    | _ => cases hL
  · exact False.elim h1
end
end FM

set_option autoImplicit false
/-! sorted, repr, item stores; a def's body; the end -/
namespace FM
open PySem PySem.Spec PyProof.Rows L2
/-! ### sorted -/
theorem sorted_one : ∀ {l m : List Int}, l.Perm m → l.Pairwise (· ≤ ·) → m.Pairwise (· ≤ ·) → l = m
  | [], m, h, _, _ => (List.nil_perm.mp h).symm
  | a :: l, m, h, h1, h2 => by
    cases m with
    | nil => exact absurd h.symm (by simp)
    | cons b m =>
      obtain ⟨a1, a2⟩ := List.pairwise_cons.mp h1
      obtain ⟨b1, b2⟩ := List.pairwise_cons.mp h2
      have e : a = b := by
        have m1 : a ∈ b :: m := h.mem_iff.mp List.mem_cons_self
        have m2 : b ∈ a :: l := h.mem_iff.mpr List.mem_cons_self
        rcases List.mem_cons.mp m1 with e | m1
        · exact e
        · rcases List.mem_cons.mp m2 with e | m2
          · exact e.symm
          · have := a1 b m2
            have := b1 a m1
            omega
      subst e
      rw [sorted_one (List.perm_cons a |>.mp h) a2 b2]
theorem sortI_spec (ns : List Int) : (sortI ns).Perm ns ∧ (sortI ns).Pairwise (· ≤ ·) := by
  refine ⟨List.mergeSort_perm _ _, ?_⟩
  have h := List.pairwise_mergeSort (le := fun a b : Int => decide (a ≤ b)) (fun a b c h1 h2 => by simp at h1 h2 ⊢; omega) (fun a b => by simp; omega) ns
  exact h.imp fun h => by simpa using h
section
variable {ι : Type} {X : ι → Cx} {K : PySem.W.Frag} {EW : XK} {a b e o i : Expr} {es : List Expr} {ma mb mo me mi : Ex} {mas : Ax} {mf : Fx} {pos p apos cpos tpos : Pos}
theorem mf_sortedI (c : CxF X K) (hg : ∀ i, Gl (X i) "sorted") (hm : ∀ i, (X i).mg "sorted" = none) (ha : ME X K EW a ma) (he : ∀ i, starEach [a] (X i).env = (false, eval a (X i).env) :: starEach [] (X i).env := by intro _; rfl) (hpl : ∀ i, (backTo pos (starEach [] (X i).env)).any (·.1) = false := by intro _; rfl) :
    MF X K EW (.Call (.Name "sorted" p) [a] [] pos) (fSortedI ma) := by
  obtain ⟨ta, pa, sa⟩ := ha.ex
  refine ⟨⟨tCB (rSortedI K) (tCons ta tNil), fun i => c.kk i ▸ pe_callB cr_sortedI (hg i) (hm i) boot_sorted (pa_cons (pa i) pa_nil (he i)) (he := he i) (hpl := hpl i), fun σ H ρ μ s Q hr m h => ?_⟩⟩
  refine sa σ H ρ μ s _ hr m (wp_mono (wp_bind h) (fun v s1 h1 => ?_) fun _ _ q => q)
  intro x H1 μ1 g1 m1 r1
  cases ea : asL s1 v with
  | none => simp only [ea, Option.bind_none] at h1; exact False.elim h1
  | some ys =>
    cases en : intsOf ys with
    | none => simp only [ea, Option.bind_some, en] at h1; exact False.elim h1
    | some ns =>
      simp only [ea, Option.bind_some, en] at h1
      obtain ⟨q, vs, eq, hq, hl, hrr⟩ := rep_asL m1 r1 ea
      obtain ⟨ev, _⟩ := intsOf_rep hrr en
      refine ⟨q, ns, by rw [eq], by rw [← ev]; exact hq, fun ns' p hp hs hn => ?_⟩
      obtain ⟨s1', s2'⟩ := sortI_spec ns
      have e : ns' = sortI ns := sorted_one (hp.trans s1'.symm) hs s2'
      rw [e]
      refine fs_new h1 g1 m1 ?_ (repInts _) p hn
      rw [List.length_map, s1'.length_eq]
      have := congrArg List.length ev
      rw [List.length_map] at this
      omega
/-! ### repr -/
theorem cr_reprC {X : Cx} (hg : X.A.guards = some []) (hu : X.A.units + 100 < cLine) : CallR X (.builtin "repr") (rReprC X.K) := by
  intro pins s σ H xs us Q I r h
  obtain ⟨x, d, rfl, hd, nd, sh, sz, dp, q⟩ := h
  cases r with
  | cons r0 r1 =>
    cases r1
    rename_i u
    obtain ⟨as, rd⟩ := Dp.reads I d x u hd r0
    cases hd with
    | non =>
      cases r0
      exact PySem.P.repr_of_none ⟨.str _, H, I.tok _, ⟨_, rfl⟩, q⟩
    | bl b =>
      cases r0
      have e : PyData.shown (.bool b) = (if b = true then PySem.Str.ofString "True" else PySem.Str.ofString "False") := by simp [PyData.shown]
      rw [e] at q
      exact PySem.P.repr_of_bool ⟨.str _, H, I.tok _, ⟨_, rfl⟩, q⟩
    | int i =>
      obtain ⟨t, rfl⟩ := r0
      have e : PyData.shown (.int i) = toString i := by simp [PyData.shown]
      rw [e] at q
      exact PySem.P.repr_of_int (by simpa [PyData.showable] using sh) ⟨.str _, H, I.tok _, ⟨_, rfl⟩, q⟩
    | str z =>
      obtain ⟨t, rfl⟩ := r0
      have e : PyData.shown (.str z) = reprText z := by simp [PyData.shown]
      rw [e] at q sz
      exact PySem.P.repr_of_str ⟨.str _, H, I.tok _, ⟨_, rfl⟩, q⟩ sz
    | lst hs ha =>
      cases r0
      exact repr_of_reads' rd sh (fun z => by rw [nd] at z; cases z) hg (by omega) (fun _ _ e => e) (fun h' t tk hk => ⟨.str _, H, I.kept (t' := tk) hk, ⟨_, rfl⟩, q⟩) sz
    | tup hs ha =>
      cases r0
      exact repr_of_reads' rd sh (fun z => by rw [nd] at z; cases z) hg (by omega) (fun _ _ e => e) (fun h' t tk hk => ⟨.str _, H, I.kept (t' := tk) hk, ⟨_, rfl⟩, q⟩) sz
theorem cs_repr {k : Nat} (c : CxG X K k) : CallS X K (.builtin "repr") bRepr := by
  refine ⟨rReprC K, fun i => c.kk i ▸ cr_reprC (c.gd i) (c.un i), fun xs H μ s as v m r e Q q => ?_⟩
  unfold bRepr at e
  split at e
  · split at e
    · rename_i x _ w ew
      split at e
      · rename_i hc
        cases e
        obtain ⟨y, ey, ry⟩ := all1 r
        obtain ⟨h1, h2⟩ := res_dp m 8 x y w ry ew
        exact ⟨y, toD w, ey, h1, canLay_noDict _ h2, hc.1, hc.2.1, hc.2.2, q _ H μ (.refl m) m (by unfold Rep; rfl)⟩
      · cases e
    · cases e
  · cases e
/-! ### xs[i] = e, xs[i] op= e, x op= e -/
theorem set_snd {H : Hp} {μ : Mu} {s s' : S} {v i w : Val} {x y z : V} {Q : Hp → Prop} (m : Mem K H μ s) (rx : Rep K H μ v x) (ry : Rep K H μ i y) (rz : Rep K H μ w z) (e : setL s v i w = some s')
    (h : ∀ H', Grow μ H μ H' → Mem K H' μ s' → Q H') : rSetL x y z H Q := by
  unfold setL at e
  split at e
  · rename_i k n j
    unfold Rep at rx
    obtain ⟨l, ex, el⟩ := rx
    split at e
    · rename_i xs e2
      split at e
      · rename_i t et
        split at e
        · rename_i hc
          cases e
          obtain ⟨vs, hv, hl, hrr⟩ := m.cel k n l _ el e2
          have b1 : below (k + 1) w = true := by
            rcases hc with hc | hc
            · have q := rep_below w z rz
              rw [m.len, ← hc] at q
              exact q
            · exact hc
          have b2 : belowAll (k + 1) (xs.set t w) = true := by
            have := m.bel k n _ e2
            have this : belowAll (k + 1) xs = true := this
            rw [belowAll_mem] at this ⊢
            intro u hu
            rcases List.mem_or_eq_of_mem_set hu with hu | hu
            · exact this u hu
            · rw [hu]; exact b1
          obtain ⟨m2, g2⟩ := m.upd (ws := vs.set t z) el e2 (by rw [List.length_set]; exact hl) (hrr.set t rz) b2
          exact ⟨l, vs, j, t, ex, rep_int ry, hv, by rw [hrr.length]; exact et, h _ g2 m2⟩
        · cases e
      · cases e
    · cases e
  · cases e
theorem ms_sub (he : ME X K EW e me) (ho : ME X K EW o mo) (hi : ME X K EW i mi)
    (ha : ∀ j v, assign (.Subscript o i tpos) (X j).env v = (do
      let ov ← holding [v] (eval o (X j).env)
      let iv ← holding [v, ov] (eval i (X j).env)
      standAt tpos
      holding [v, ov, iv] (setItem ov iv v)
      release [v, ov, iv] []) := by intro _ _; rfl) (hs : ∀ j, swapsWithSole [.Subscript o i tpos] e pos.line (X j).env = Pure.pure false := by intro _; rfl) (hw : ∀ j, swappedStores [.Subscript o i tpos] e (X j).env = Pure.pure none := by intro _; rfl)
    (h1 : ∀ j, (assignEach [.Subscript o i tpos] (X j).env).map (·.2) = [assign (.Subscript o i tpos) (X j).env] := by intro _; rfl) : MS X K EW (.Assign [.Subscript o i tpos] e pos) (sSub mo mi me) := by
  obtain ⟨te, pe, se⟩ := he.ex
  obtain ⟨to', po, so⟩ := ho.ex
  obtain ⟨ti, pi, si⟩ := hi.ex
  refine ⟨⟨_, fun j => ps_asg (pe j) (pg_sub (po j) (pi j) set_list (ha j)) (hs j) (hw j) (h1 j), fun σ H ρ μ s D hr m h => ?_⟩⟩
  refine se σ H ρ μ s _ hr m (wp_mono (wp_seq h) (fun v s1 h1 => ?_) fun _ _ q => q)
  intro x H1 μ1 g1 m1 r1
  refine so σ H1 ρ μ1 s1 _ (hr.mono g1 m) m1 (wp_mono (wp_seq h1) (fun u s2 h2 => ?_) fun _ _ q => q.mono g1)
  intro y H2 μ2 g2 m2 r2
  have g12 := g1.trans g2
  refine si σ H2 ρ μ2 s2 _ (hr.mono g12 m) m2 (wp_mono (wp_seq h2) (fun t s3 h3 => ?_) fun _ _ q => q.mono g12)
  intro z H3 μ3 g3 m3 r3
  have g13 := g12.trans g3
  split at h3
  · rename_i s4 e4
    refine set_snd m3 (Rep.mono g3 m2 u y r2) r3 (Rep.mono g3 m2 v x (Rep.mono g2 m1 v x r1)) e4 fun H4 g4 m4 => ?_
    exact h3 σ H4 μ3 (g13.trans g4) m4 (hr.mono (g13.trans g4) m)
  · exact False.elim h3
def rGetL (K : PySem.W.Frag) : V → V → Hp → VK → Prop := fun o i H Q => ∃ p xs k v, o = .ref p ∧ i = .int k ∧ 0 ≤ k ∧ SqL K H p xs ∧ atI xs k = some v ∧ Q v H
theorem get_listP {X : Cx} : PGet X (rGetL X.K) := by
  intro pins s σ H o i ov iv Q I ro ri h
  obtain ⟨p, xs, k, z, rfl, rfl, h0, hq, he, q⟩ := h
  cases ro
  obtain ⟨t, rfl⟩ := ri
  obtain ⟨its, r, pl, hz⟩ := I.list hq
  obtain ⟨j, h1, h2, h3, h4, h5⟩ := atI_get he
  obtain ⟨w, ew, rw'⟩ := r.get h2
  have hn := line63
  have hj : k.toNat = j := by
    rw [seqIndex_of h0 h5] at h1
    exact Option.some.inj h1
  have hlt : k < 2 ^ 63 := by omega
  exact wpAny_getItem_list pl.isList h0 hlt (by rw [hj]; simpa using ew) ⟨z, H, I, rw', q⟩
/-- an operator in place -/
def IpS {ι : Type} (X : ι → Cx) (K : PySem.W.Frag) (op : Operator) (g : S → Val → Val → Option Val) : Prop :=
  ∃ r, (∀ i, PIp (X i) op r) ∧ ∀ x y H μ s a b v, Mem K H μ s → Rep K H μ a x → Rep K H μ b y → g s a b = some v → ∀ Q : VK, VP K μ H Q v s → r x y H Q
/-- + of ints alone -/
theorem is_add : IpS X K .Add opAddI := by
  refine ⟨_, fun _ => ip_add, fun x y H μ s a b v m ra rb e Q q => ?_⟩
  unfold opAddI at e
  split at e
  · cases e
    exact ⟨_, _, rep_int ra, rep_int rb, q _ H μ (.refl m) m rep_of_int⟩
  · cases e
theorem ms_aug {op : Operator} {k : Nat} {x : PySem.Str} {pos' : Pos} {g : S → Val → Val → Option Val} (o' : IpS X K op g) (hN : ∀ i, (X i).N.Nodup) (hi : ∀ i, (X i).N[k]? = some x) (hx : ∀ i, Loc (X i).env.scope x) (he : ME X K EW e me)
    (hf : ∀ i, (X i).fn x = true ∨ (X i).env.scope.names.lookup x = some .local := by first | exact fun _ => .inl rfl | exact fun _ => .inr rfl) : MS X K EW (.AugAssign (.Name x pos') op e pos) (sAug k g me) := by
  obtain ⟨te, pe, se⟩ := he.ex
  obtain ⟨r, pr, sr⟩ := o'
  refine ⟨⟨_, fun i => ps_aug (hN i) (hi i) (hx i) (pe i) (pr i) (hf i), fun σ H ρ μ s D hr m h => ?_⟩⟩
  unfold SW sAug at h
  split at h
  · rename_i v ev
    obtain ⟨y, hy, ry⟩ := hr.get k v ev
    refine ⟨y, hy, ?_⟩
    refine se σ H ρ μ s _ hr m (wp_mono (wp_seq h) (fun u s1 h1 => ?_) fun _ _ q => q)
    intro z H1 μ1 g1 m1 r1
    have h1 := wp_seq h1
    obtain ⟨w, ew, q⟩ := wp_ofO h1
    refine sr y z H1 μ1 s1 v u w m1 (Rep.mono g1 m v y ry) r1 ew _ ?_
    intro t H2 μ2 g2 m2 r2
    exact q _ H2 μ2 (g1.trans g2) m2 ((hr.mono (g1.trans g2) m).set k r2)
  · exact False.elim h
theorem ms_augSub {op : Operator} {g : S → Val → Val → Option Val} (o' : IpS X K op g) (c : CxF X K) (ho : ME X K EW o mo) (hi : ME X K EW i mi) (he : ME X K EW e me)
    (ha : ∀ ov iv new, augStore i ov iv new = (do holding [new, ov, iv] (setItem ov iv new); release [new, ov, iv] []; Pure.pure .next) := by intros; rfl) : MS X K EW (.AugAssign (.Subscript o i tpos) op e pos) (sAugSub g mo mi me) := by
  obtain ⟨te, pe, se⟩ := he.ex
  obtain ⟨to', po, so⟩ := ho.ex
  obtain ⟨ti, pi, si⟩ := hi.ex
  obtain ⟨r, pr, sr⟩ := o'
  refine ⟨⟨tAugS to' ti te (rGetL K) r rSetL, fun j => c.kk j ▸ ps_augS (po j) (pi j) get_listP (pe j) (pr j) set_list ha, fun σ H ρ μ s D hr m h => ?_⟩⟩
  refine so σ H ρ μ s _ hr m (wp_mono (wp_seq h) (fun v s1 h1 => ?_) fun _ _ q => q)
  intro x H1 μ1 g1 m1 r1
  refine si σ H1 ρ μ1 s1 _ (hr.mono g1 m) m1 (wp_mono (wp_seq h1) (fun u s2 h2 => ?_) fun _ _ q => q.mono g1)
  intro y H2 μ2 g2 m2 r2
  have g12 := g1.trans g2
  have rx2 := Rep.mono g2 m1 v x r1
  obtain ⟨old, eo, h3⟩ := wp_ofO (wp_seq h2)
  unfold opIxN at eo
  split at eo
  · rename_i k
    split at eo
    · rename_i hk
      cases ea : asL s2 v with
      | none => rw [ea] at eo; cases eo
      | some xs =>
        rw [ea] at eo
        obtain ⟨q, vs, eq, hq, _, hrr⟩ := rep_asL m2 rx2 ea
        obtain ⟨z, hz, rz⟩ := rep_at hrr eo
        refine ⟨q, vs, k, z, eq, rep_int r2, hk, hq, hz, ?_⟩
        refine se σ H2 ρ μ2 s2 _ (hr.mono g12 m) m2 (wp_mono (wp_seq h3) (fun w s3 h4 => ?_) fun _ _ q => q.mono g12)
        intro t H3 μ3 g3 m3 r3
        have g13 := g12.trans g3
        obtain ⟨nw, en, h5⟩ := wp_ofO (wp_seq h4)
        refine sr z t H3 μ3 s3 old w nw m3 (Rep.mono g3 m2 old z rz) r3 en _ ?_
        intro t4 H4 μ4 g4 m4 r4
        have g14 := g13.trans g4
        split at h5
        · rename_i s6 e6
          refine set_snd m4 (Rep.mono g4 m3 v x (Rep.mono g3 m2 v x rx2)) (Rep.mono g4 m3 _ y (Rep.mono g3 m2 _ y r2)) r4 e6 fun H5 g5 m5 => ?_
          exact h5 σ H5 μ4 (g14.trans g5) m5 (hr.mono (g14.trans g5) m)
        · exact False.elim h5
    · cases eo
  · cases eo
end
end FM

set_option autoImplicit false
/-! negation, chains, sorted(set(..)) -/
namespace FM
open PySem PySem.Spec PyProof.Rows L2
def opNeg (s : S) : Val → Option Val
  | .int i => some (.int (-i))
  | _ => none
def tChn (f g : S → Val → Val → Option Val) (a b c : Ex) : Tx := tVal (eChain f g a b c)
/-- into a list that rises -/
def insD (n : Int) : List Int → List Int
  | [] => [n]
  | m :: r => if n < m then n :: m :: r else if n = m then m :: r else m :: insD n r
def sortD : List Int → List Int
  | [] => []
  | n :: r => insD n (sortD r)
theorem insD_mem {n k : Int} : ∀ {l : List Int}, k ∈ insD n l ↔ k = n ∨ k ∈ l
  | [] => by simp [insD]
  | m :: r => by
    unfold insD
    split
    · simp
    · split
      · rename_i e; subst e; simp
      · simp only [List.mem_cons, insD_mem (l := r)]
        constructor
        · rintro (h | h | h) <;> simp [h]
        · rintro (h | h | h) <;> simp [h]
theorem insD_up {n : Int} : ∀ {l : List Int}, l.Pairwise (· < ·) → (insD n l).Pairwise (· < ·)
  | [], _ => by simp [insD]
  | m :: r, h => by
    obtain ⟨h1, h2⟩ := List.pairwise_cons.mp h
    unfold insD
    split
    · rename_i hl
      refine List.pairwise_cons.mpr ⟨fun k hk => ?_, h⟩
      rcases List.mem_cons.mp hk with e | hk
      · omega
      · have := h1 k hk; omega
    · split
      · exact h
      · rename_i hl hne
        refine List.pairwise_cons.mpr ⟨fun k hk => ?_, insD_up h2⟩
        rcases insD_mem.mp hk with e | hk
        · omega
        · exact h1 k hk
theorem sortD_mem {k : Int} : ∀ {l : List Int}, k ∈ sortD l ↔ k ∈ l
  | [] => by simp [sortD]
  | n :: r => by unfold sortD; rw [insD_mem, sortD_mem (l := r)]; simp
theorem sortD_up : ∀ (l : List Int), (sortD l).Pairwise (· < ·)
  | [] => by simp [sortD]
  | n :: r => insD_up (sortD_up r)
theorem up_one {l m : List Int} (h1 : l.Pairwise (· < ·)) (h2 : m.Pairwise (· < ·)) (h : ∀ k, k ∈ l ↔ k ∈ m) : l = m := by
  refine sorted_one ?_ (h1.imp fun q => Int.le_of_lt q) (h2.imp fun q => Int.le_of_lt q)
  exact (List.perm_ext_iff_of_nodup (h1.imp fun q => by omega) (h2.imp fun q => by omega)).mpr h
theorem insD_len (n : Int) : ∀ (l : List Int), (insD n l).length ≤ l.length + 1
  | [] => by simp [insD]
  | m :: r => by
    unfold insD
    split
    · simp
    · split
      · simp
      · have := insD_len n r; simp; omega
theorem sortD_len : ∀ (l : List Int), (sortD l).length ≤ l.length
  | [] => by simp [sortD]
  | n :: r => by have := sortD_len r; have := insD_len n (sortD r); unfold sortD; simp; omega
/-- sorted(set(tuple of ints)) -/
def fSortSetT (a : Ex) : Fx := fun ρ s => (a ρ s).bind fun x s1 => match (asT x).bind intsOf with
  | some ns => if ns.length < 64 then .ok ((sortD ns).map .int) s1 else .no
  | none => .no
section
variable {X : Cx} {a : Expr} {ta : TE} {p p2 q pos : Pos}
def tSortSetT (K : PySem.W.Frag) (ta : TE) : TE := fun σ H Q => ta σ H fun x H1 => ∃ (l : Addr) (ns : List Int), x = .ref l ∧ SqT K H1 l (ns.map V.int) ∧ ns.length < 64 ∧ ∀ r, H1 r = none → Q (.ref r) (upd H1 r (.lst ((sortD ns).map V.int)))
theorem pe_sortSetT (hc : X.calm = true) (hg : Gl X "sorted") (hm : X.mg "sorted" = none) (hg2 : Gl X "set") (hm2 : X.mg "set" = none) (ha : PE X a ta)
    (na : starEach [a] X.env = (false, eval a X.env) :: starEach [] X.env) : PE X (.Call (.Name "sorted" p) [.Call (.Name "set" p2) [a] [] q] [] pos) (tSortSetT X.K ta) := by
  refine ⟨fun pins s σ H Q I h => ?_⟩
  refine Call_ (ld_blt I hg hm boot_sorted ?_)
  refine callWith_builtin1 (args_cons ?_ rfl) rfl rfl
  refine Call_ (ld_blt I hg2 hm2 PyProof.Rows.boot_set ?_)
  refine callWith_type1 (args_cons (thn (ha.run pins s σ H _ I h) fun v s1 z => args_nil ?_) na) na rfl
  obtain ⟨x, H1, I1, r1, l, ns, ex, hq, hl, q1⟩ := z
  subst ex
  cases r1
  obtain ⟨its, rv, pt, hz⟩ := I1.tuple hq
  refine call_set_tupI ns (I1.ok.hd hc) (show s1.heap.IsTuple l its.toArray from pt) (ints_of_vals rv) (by unfold scanBound; omega) fun h' tk c R hcn kp => ?_
  refine args_nil ?_
  have I2 : Inv X pins σ H1 { s1 with heap := h', toks := tk } := I1.kept fun b o e => kp b o e
  refine sorted_set R (I2.ok.hd hc) (by omega) fun s' r out c2 ms k2 g2 os hr hg hi up hmem hlen => ?_
  have em : ms = sortD ns := up_one up (sortD_up ns) fun k => (hmem k).trans (by rw [sortD_mem]; simp)
  subst em
  have zl : ((sortD ns).map V.int).length ≤ sizeLine := by rw [List.length_map]; have := sortD_len ns; unfold sizeLine; omega
  have hn : H1 r = none := I2.hok.fresh hr
  have J : Inv X pins σ (upd H1 r (.lst ((sortD ns).map V.int))) { ({ s1 with heap := h', toks := tk } : Shared) with heap := s'.heap, gens := s'.gens, drawn := s'.drawn, toks := s'.toks } :=
    I2.call (ch := []) (Un.laid k2 hr hn) (I2.hok.laid k2 hr ⟨zl, out.toList, c2, vals_of_ints hi, hg⟩) (by rw [g2]; exact I2.bare) (fun _ z => nomatch z)
  have e : s' = { ({ s1 with heap := h', toks := tk } : Shared) with heap := s'.heap, gens := s'.gens, drawn := s'.drawn, toks := s'.toks } := by
    cases s'; cases s1; cases os; rfl
  rw [e]
  exact ⟨.ref r, _, J, rfl, q1 r hn⟩
end
section
variable {ι : Type} {X : ι → Cx} {K : PySem.W.Frag} {EW : XK} {a b c : Expr} {ma mb mc : Ex} {pos p p2 q : Pos}
theorem mf_sortSetT (c : CxF X K) (hg : ∀ i, Gl (X i) "sorted") (hm : ∀ i, (X i).mg "sorted" = none) (hg2 : ∀ i, Gl (X i) "set") (hm2 : ∀ i, (X i).mg "set" = none) (ha : ME X K EW a ma)
    (he : ∀ i, starEach [a] (X i).env = (false, eval a (X i).env) :: starEach [] (X i).env := by intro _; rfl) : MF X K EW (.Call (.Name "sorted" p) [.Call (.Name "set" p2) [a] [] q] [] pos) (fSortSetT ma) := by
  obtain ⟨ta, pa, sa⟩ := ha.ex
  refine ⟨⟨tSortSetT K ta, fun i => c.kk i ▸ pe_sortSetT (c.calm i) (hg i) (hm i) (hg2 i) (hm2 i) (pa i) (he i), fun σ H ρ μ s Q hr m h => ?_⟩⟩
  refine sa σ H ρ μ s _ hr m (wp_mono (wp_bind h) (fun v s1 h1 => ?_) fun _ _ q => q)
  intro x H1 μ1 g1 m1 r1
  cases v with
  | tup ys =>
    cases en : intsOf ys with
    | none => simp only [asT, Option.bind_some, en] at h1; exact False.elim h1
    | some ns =>
      simp only [asT, Option.bind_some, en] at h1
      split at h1
      · rename_i hlt
        obtain ⟨t, vs, ex, hq, hl, hrr⟩ := rep_tup r1
        obtain ⟨ev, _⟩ := intsOf_rep hrr en
        refine ⟨t, ns, ex, by rw [← ev]; exact hq.sqT, hlt, fun r hn => ?_⟩
        refine fs_new h1 g1 m1 ?_ (repInts _) r hn
        rw [List.length_map]; have := sortD_len ns; unfold sizeLine; omega
      · exact False.elim h1
  | _ => exact False.elim h1
/-- -a -/
theorem me_neg (ha : ME X K EW a ma) : ME X K EW (.UnaryOp .USub a pos) (eOp1 opNeg ma) := by
  obtain ⟨ta, pa, sa⟩ := ha.ex
  refine ⟨⟨_, fun i => pe_un un_neg (pa i), fun σ H ρ μ s Q hr m h => ?_⟩⟩
  refine sa σ H ρ μ s _ hr m (wp_mono (wp_bind h) (fun v s1 h1 => ?_) fun _ _ q => q)
  intro x H1 μ1 g1 m1 r1
  obtain ⟨w, e, q⟩ := wp_ofO h1
  cases v with
  | int i => cases e; exact ⟨i, rep_int r1, q _ H1 μ1 g1 m1 rep_of_int⟩
  | _ => cases e
/-- a op b op' c -/
theorem chain_ex {op op' : CmpOp} {f g : S → Val → Val → Option Val} (o : OpS X K (compareOp op) f) (o' : OpS X K (compareOp op') g) (ha : ME X K EW a ma) (hb : ME X K EW b mb) (hc : ME X K EW c mc) (hm : lastMarks [op, op'] [b, c] = false := by with_unfolding_all rfl) :
    ∃ t, (∀ i, PE (X i) (.Compare a [op, op'] [b, c] pos) t) ∧ (∀ i, PT (X i) (.Compare a [op, op'] [b, c] pos) (tTest t)) ∧ ∀ σ H ρ μ s Q, SR K H μ ρ σ → Mem K H μ s → (eChain f g ma mb mc ρ s).wp (VP K μ H Q) (XP K μ H EW) → t σ H Q := by
  obtain ⟨ta, pa, sa⟩ := ha.ex
  obtain ⟨tb, pb, sb⟩ := hb.ex
  obtain ⟨tc, pc, sc⟩ := hc.ex
  obtain ⟨r, pr, sr⟩ := o
  obtain ⟨r', pr', sr'⟩ := o'
  refine ⟨_, fun i => pe_chain (pr i) (pr' i) (pa i) (pb i) (pc i) hm, fun i => pt_chain (pr i) (pr' i) (pa i) (pb i) (pc i) hm, fun σ H ρ μ s Q hr m h => ?_⟩
  refine sa σ H ρ μ s _ hr m (wp_mono (wp_bind h) (fun v s1 h1 => ?_) fun _ _ q => q)
  intro x H1 μ1 g1 m1 r1
  refine sb σ H1 ρ μ1 s1 _ (hr.mono g1 m) m1 (wp_mono (wp_bind h1) (fun u s2 h2 => ?_) fun _ _ q => q.mono g1)
  intro y H2 μ2 g2 m2 r2
  have h2 := wp_bind h2
  obtain ⟨w, e, q⟩ := wp_ofO h2
  refine sr x y H2 μ2 s2 v u w m2 (Rep.mono g2 m1 v x r1) r2 e _ ?_
  intro z H3 μ3 g3 m3 r3
  have g23 := (g1.trans g2).trans g3
  split at q
  · refine ⟨true, rep_bl r3, ?_⟩
    rw [if_pos rfl]
    refine sc σ H3 ρ μ3 s2 _ (hr.mono g23 m) m3 (wp_mono (wp_bind q) (fun k s4 h4 => ?_) fun _ _ q => q.mono g23)
    intro z' H4 μ4 g4 m4 r4
    obtain ⟨w2, e2, q2⟩ := wp_ofO h4
    exact sr' y z' H4 μ4 s4 u k w2 m4 (Rep.mono (g3.trans g4) m2 u y r2) r4 e2 Q (q2.mono (g23.trans g4))
  · refine ⟨false, rep_bl r3, ?_⟩
    rw [if_neg Bool.false_ne_true]
    exact q _ H3 μ3 g23 m3 rep_of_bl
  · exact q.elim
theorem me_chain {op op' : CmpOp} {f g : S → Val → Val → Option Val} (o : OpS X K (compareOp op) f) (o' : OpS X K (compareOp op') g) (ha : ME X K EW a ma) (hb : ME X K EW b mb) (hc : ME X K EW c mc) (hm : lastMarks [op, op'] [b, c] = false := by with_unfolding_all rfl) :
    ME X K EW (.Compare a [op, op'] [b, c] pos) (eChain f g ma mb mc) :=
  let ⟨t, p1, _, q⟩ := chain_ex (pos := pos) o o' ha hb hc hm
  ⟨⟨t, p1, q⟩⟩
/-- a value as a test, by the reading of a comparison -/
theorem test_snd {t : TE} {me : Ex} (h : ∀ σ H ρ μ s Q, SR K H μ ρ σ → Mem K H μ s → (me ρ s).wp (VP K μ H Q) (XP K μ H EW) → t σ H Q) :
    ∀ σ H ρ μ s Q, SR K H μ ρ σ → Mem K H μ s → (tVal me ρ s).wp (TsP K μ H Q) (XP K μ H EW) → tTest t σ H Q := by
  intro σ H ρ μ s Q hr m hw
  refine h σ H ρ μ s _ hr m (wp_mono (wp_bind hw) (fun v s1 h1 => ?_) fun _ _ q => q)
  intro x H1 μ1 g1 m1 r1
  split at h1
  · exact ⟨_, rep_bl r1, h1 H1 μ1 g1 m1⟩
  · exact h1.elim
theorem mt_chain {op op' : CmpOp} {f g : S → Val → Val → Option Val} (o : OpS X K (compareOp op) f) (o' : OpS X K (compareOp op') g) (ha : ME X K EW a ma) (hb : ME X K EW b mb) (hc : ME X K EW c mc) (hm : lastMarks [op, op'] [b, c] = false := by with_unfolding_all rfl) :
    MT X K EW (.Compare a [op, op'] [b, c] pos) (tVal (eChain f g ma mb mc)) :=
  let ⟨t, _, p2, q⟩ := chain_ex (pos := pos) o o' ha hb hc hm
  ⟨⟨tTest t, p2, test_snd q⟩⟩
/-- two readings: the first that answers -/
def eAlt (m n : Ex) : Ex := fun ρ s => match m ρ s with
  | .no => n ρ s
  | r => r
theorem me_alt (ha : ME X K EW a ma) (hb : ME X K EW a mb) : ME X K EW a (eAlt ma mb) := by
  obtain ⟨ta, pa, sa⟩ := ha.ex
  obtain ⟨tb, pb, sb⟩ := hb.ex
  refine ⟨⟨fun σ H Q => ta σ H Q ∨ tb σ H Q, fun i => ⟨fun pins s σ H Q I h => h.elim (fun h => (pa i).run pins s σ H Q I h) fun h => (pb i).run pins s σ H Q I h⟩, fun σ H ρ μ s Q hr m h => ?_⟩⟩
  unfold eAlt at h
  cases e : ma ρ s with
  | no => rw [e] at h; exact .inr (sb σ H ρ μ s Q hr m h)
  | ok v s1 => rw [e] at h; exact .inl (sa σ H ρ μ s Q hr m (by rw [e]; exact h))
  | ex v s1 => rw [e] at h; exact .inl (sa σ H ρ μ s Q hr m (by rw [e]; exact h))
end
end FM

set_option autoImplicit false
/-! a def's body; the law's end -/
namespace FM
open PySem PySem.Spec PyProof.Rows L2

section
variable {K : PySem.W.Frag} {H : Hp} {μ : Mu}
/-- without the newest frame -/
def Mu.pop (μ : Mu) : Mu := { μ with fr := μ.fr.tail }
theorem lk_pop {α : Type} {fr : List α} {r : List (List α)} {f n : Nat} {x : α} (h : lk (fr :: r) f n = some x) (hf : f < r.length) : lk r f n = some x := by
  unfold lk at h
  rw [if_neg (Nat.ne_of_lt hf)] at h
  exact h
theorem off_pop {fr : List Addr} {r : List (List Addr)} {hid hid' : Addr → Prop} (hh : ∀ x, hid' x → x ∈ fr ∨ hid x) {b : Addr} (h : Off ⟨fr :: r, hid⟩ b) : Off ⟨r, hid'⟩ b :=
  ⟨fun f hf => h.1 f (List.mem_cons_of_mem _ hf), fun q => (hh b q).elim (fun z => h.1 fr List.mem_cons_self z) h.2⟩
mutual
theorem rep_pop {fr : List Addr} {r : List (List Addr)} {hid hid' : Addr → Prop} (hh : ∀ x, hid' x → x ∈ fr ∨ hid x) : ∀ (v : Val) (x : V), below r.length v = true → Rep K H ⟨fr :: r, hid⟩ v x → Rep K H ⟨r, hid'⟩ v x
  | .non, _, _, h => h
  | .bl _, _, _, h => h
  | .int _, _, _, h => h
  | .str _, _, _, h => h
  | .tup xs, x, b, h => by
    unfold Rep at h ⊢; unfold below at b
    obtain ⟨a, vs, e, hq, hl, hr⟩ := h
    exact ⟨a, vs, e, hq, hl, repAll_pop hh xs vs b hr⟩
  | .lst xs, x, b, h => by
    unfold Rep at h ⊢; unfold below at b
    obtain ⟨a, vs, e, hq, ho, hl, hr⟩ := h
    exact ⟨a, vs, e, hq, off_pop hh ho, hl, repAll_pop hh xs vs b hr⟩
  | .scr xs, x, b, h => by
    unfold Rep at h ⊢; unfold below at b
    obtain ⟨a, vs, e, hq, hl, hr⟩ := h
    exact ⟨a, vs, e, hq.imp (fun q => ⟨q.1, off_pop hh q.2⟩) id, hl, repAll_pop hh xs vs b hr⟩
  | .dct _ _, _, _, h => by unfold Rep at h; exact h.elim
  | .ref f n, x, b, h => by
    unfold Rep at h ⊢; unfold below at b
    obtain ⟨a, e, q⟩ := h
    exact ⟨a, e, lk_pop q (of_decide_eq_true b)⟩
theorem repAll_pop {fr : List Addr} {r : List (List Addr)} {hid hid' : Addr → Prop} (hh : ∀ x, hid' x → x ∈ fr ∨ hid x) : ∀ (v : List Val) (x : List V), belowAll r.length v = true → RepAll K H ⟨fr :: r, hid⟩ v x → RepAll K H ⟨r, hid'⟩ v x
  | [], _, _, h => by unfold RepAll at h ⊢; exact h
  | v :: vs, x, b, h => by
    unfold RepAll at h ⊢; unfold belowAll at b
    simp only [Bool.and_eq_true] at b
    obtain ⟨w, ws, e, h1, h2⟩ := h
    exact ⟨w, ws, e, rep_pop hh v w b.1 h1, repAll_pop hh vs ws b.2 h2⟩
end
/-- the arguments in a new frame -/
theorem rep_push (hid : Addr → Prop) {r : List (List Addr)} {v : Val} {x : V} (h : Rep K H ⟨r, hid⟩ v x) : Rep K H ⟨[] :: r, hid⟩ v x := by
  refine Rep.sub (μ := ⟨r, hid⟩) (μ' := ⟨[] :: r, hid⟩) (fun f n b e => ?_) (fun b hb => ⟨fun f hf => ?_, hb.2⟩) v x h
  · have e : lk r f n = some b := e
    show lk ([] :: r) f n = some b
    unfold lk
    rw [if_neg (Nat.ne_of_lt (lk_lt e)), e]
  · rcases List.mem_cons.mp hf with e | hf
    · rw [e]; simp
    · exact hb.1 f hf
theorem repAll_push (hid : Addr → Prop) {r : List (List Addr)} : ∀ {v : List Val} {x : List V}, RepAll K H ⟨r, hid⟩ v x → RepAll K H ⟨[] :: r, hid⟩ v x
  | [], _, h => by unfold RepAll at h ⊢; exact h
  | v :: vs, x, h => by
    unfold RepAll at h ⊢
    obtain ⟨w, ws, e, h1, h2⟩ := h
    exact ⟨w, ws, e, rep_push hid h1, repAll_push hid h2⟩
theorem mem_push {hid : Addr → Prop} {r : List (List Addr)} {s : S} (m : Mem K H ⟨r, hid⟩ s) : Mem K H ⟨[] :: r, hid⟩ ([] :: s) := by
  have el : r.length = s.length := m.len
  refine ⟨by simp [m.shp], by simpa using m.nd, fun f hf a ha => ?_, fun f n a c e1 e2 => ?_, fun f n c e2 => ?_, m.hd⟩
  · rcases List.mem_cons.mp hf with e | hf
    · rw [e] at ha; simp at ha
    · exact m.sep f hf a ha
  · unfold lk at e1 e2
    split at e1
    · simp at e1
    · rename_i ef
      rw [if_neg (by rw [← el]; exact ef)] at e2
      have q := m.cel f n a c e1 e2
      cases c with
      | lst xs =>
        obtain ⟨vs, e, hl, hr⟩ := q
        exact ⟨vs, e, hl, repAll_push hid hr⟩
      | dct _ _ => exact q.elim
  · unfold lk at e2
    split at e2
    · simp at e2
    · exact m.bel f n c e2
theorem mem_pop {hid hid' : Addr → Prop} {fr : List Addr} {r : List (List Addr)} (hh : ∀ x, hid' x → x ∈ fr ∨ hid x) {cs : List Cell} {s : S} (m : Mem K H ⟨fr :: r, hid⟩ (cs :: s)) : Mem K H ⟨r, hid'⟩ s := by
  have sh := m.shp
  simp only [List.map_cons, List.cons.injEq] at sh
  have el : r.length = s.length := by have := congrArg List.length sh.2; simpa using this
  have nd := m.nd
  simp only [List.flatten_cons, List.nodup_append] at nd
  refine ⟨sh.2, nd.2.1, fun f hf a ha q => ?_, fun f n a c e1 e2 => ?_, fun f n c e2 => ?_, fun a ha => ?_⟩
  · rcases hh a q with z | z
    · exact nd.2.2 a z a (List.mem_flatten.mpr ⟨f, hf, ha⟩) rfl
    · exact m.sep f (List.mem_cons_of_mem _ hf) a ha z
  · have hf : f < r.length := lk_lt e1
    have e1 : lk r f n = some a := e1
    have q := m.cel f n a c (by show lk (fr :: r) f n = some a; unfold lk; rw [if_neg (Nat.ne_of_lt hf), e1]) (by unfold lk; rw [if_neg (by rw [← el]; exact Nat.ne_of_lt hf), e2])
    have b := m.bel f n c (by unfold lk; rw [if_neg (by rw [← el]; exact Nat.ne_of_lt hf), e2])
    cases c with
    | lst xs =>
      obtain ⟨vs, e, hl, hr⟩ := q
      have b : belowAll (f + 1) xs = true := b
      refine ⟨vs, e, hl, repAll_pop hh xs vs ?_ hr⟩
      rw [belowAll_mem] at b ⊢
      exact fun x hx => below_mono x (by omega) (b x hx)
    | dct _ _ => exact q.elim
  · have hf := lk_lt e2
    exact m.bel f n c (by unfold lk; rw [if_neg (Nat.ne_of_lt hf), e2])
  · rcases hh a ha with z | z
    · exact m.live List.mem_cons_self z
    · exact m.hd a z
theorem grow_pop {hid hid' : Addr → Prop} {fr : List Addr} {r r' : List (List Addr)} {H' : Hp} (g : Grow ⟨[] :: r, hid⟩ H ⟨fr :: r', hid'⟩ H') : r' = r ∧ Grow ⟨r, hid⟩ H ⟨r, hid'⟩ H' := by
  obtain ⟨⟨b, e, hb⟩, h1, h2, h3, h4, h5⟩ := g
  simp only [exts, List.nil_append, List.cons.injEq] at e
  refine ⟨e.2, ⟨⟨[], exts_nil.symm, by simp⟩, h1, h2, fun a o ho => h3 a o ⟨fun f hf => ?_, ho.2⟩, fun f hf => h4 f (List.mem_cons_of_mem _ hf), h5⟩⟩
  rcases List.mem_cons.mp hf with e | hf
  · rw [e]; simp
  · exact ho.1 f hf
/-- reading the live objects of a frame off -/
theorem mapM_frz {f : Val → Option Val} {μ' : Mu} (hf : ∀ v x w, Rep K H μ v x → f v = some w → Rep K H μ' w x) : ∀ (v : List Val) (x : List V) (ws : List Val), RepAll K H μ v x → v.mapM f = some ws → RepAll K H μ' ws x
  | [], x, ws, h, e => by
    unfold RepAll at h
    have : ws = [] := by simpa using e.symm
    rw [h, this]; exact .nil
  | v :: vs, x, ws, h, e => by
    unfold RepAll at h
    obtain ⟨w, us, e1, h1, h2⟩ := h
    obtain ⟨y, r, e2, e3, e4⟩ := mapM_cons e
    rw [e1, e2]
    exact .cons (hf v w y h1 e3) (mapM_frz hf vs us r h2 e4)
theorem frz_rep {hid : Addr → Prop} {fr : List Addr} {r : List (List Addr)} {cs : List Cell} {s : S} (m : Mem K H ⟨fr :: r, hid⟩ (cs :: s)) : ∀ (k : Nat) (v : Val) (x : V) (w : Val), Rep K H ⟨fr :: r, hid⟩ v x → frz s.length cs k v = some w → Rep K H ⟨r, hid⟩ w x := by
  have sh := m.shp
  simp only [List.map_cons, List.cons.injEq] at sh
  have el : r.length = s.length := by have := congrArg List.length sh.2; simpa using this
  intro k
  induction k with
  | zero =>
    intro v x w h e
    unfold frz at e
    split at e
    · rename_i hb; cases e; exact rep_pop (fun _ q => .inr q) v x (by rw [el]; exact hb) h
    · cases e
  | succ k ih =>
    intro v x w h e
    unfold frz at e
    split at e
    · rename_i hb; cases e; exact rep_pop (fun _ q => .inr q) v x (by rw [el]; exact hb) h
    · split at e
      · rename_i f n _
        split at e
        · rename_i ef
          unfold Rep at h
          obtain ⟨a, ea, ela⟩ := h
          split at e
          · rename_i xs ex
            have e2 : lk (cs :: s) f n = some (.lst xs) := by unfold lk; rw [if_pos ef, ex]
            obtain ⟨vs, hv, hl, hr⟩ := m.cel f n a _ ela e2
            cases em : List.mapM (frz s.length cs k) xs with
            | none => rw [em] at e; cases e
            | some ws =>
              rw [em] at e
              cases e
              unfold Rep
              refine ⟨a, vs, ea, hv, ⟨fun g hg ha => ?_, ?_⟩, hl, mapM_frz ih xs vs ws hr em⟩
              · have nd := m.nd
                simp only [List.flatten_cons, List.nodup_append] at nd
                unfold lk at ela
                rw [if_pos (ef.trans el.symm)] at ela
                exact nd.2.2 a (List.mem_of_getElem? ela) a (List.mem_flatten.mpr ⟨g, hg, ha⟩) rfl
              · obtain ⟨g, hg, ha⟩ := lk_mem ela
                exact m.sep g hg a ha
          · cases e
        · cases e
      · rename_i xs _
        unfold Rep at h
        obtain ⟨a, vs, ea, hq, hl, hr⟩ := h
        cases em : List.mapM (frz s.length cs k) xs with
        | none => rw [em] at e; cases e
        | some ws =>
          rw [em] at e
          cases e
          unfold Rep
          exact ⟨a, vs, ea, hq, hl, mapM_frz ih xs vs ws hr em⟩
      · rename_i xs _
        unfold Rep at h
        obtain ⟨a, vs, ea, hq, ho, hl, hr⟩ := h
        cases em : List.mapM (frz s.length cs k) xs with
        | none => rw [em] at e; cases e
        | some ws =>
          rw [em] at e
          cases e
          unfold Rep
          exact ⟨a, vs, ea, hq, ⟨fun f hf => ho.1 f (List.mem_cons_of_mem _ hf), ho.2⟩, hl, mapM_frz ih xs vs ws hr em⟩
      · cases e
end
/-- a start of a body: where the def is entered -/
def BI (k : Nat) (qual : PySem.Str) (sc : Scope) (f : Addr) (cdv : Value) : Type := {i : Around × List PySem.Env × Shared × Hp // Room k (i.1.deeper (envOfC qual sc i.2.2.1.heap.objs.size f cdv)) ∧ i.1.guards = some []}
def bX (P : Program) (w : World) (K : PySem.W.Frag) (mg : PySem.Str → Option Value) (base : Heap) (k : Nat) (N : List PySem.Str) (qual : PySem.Str) (sc : Scope) (f : Addr) (cdv : Value) (E : XK) (i : BI k qual sc f cdv) : Cx :=
  (cxOf CX0 P w K mg base N qual sc f cdv i.1.1 i.1.2.1 i.1.2.2.1 i.1.2.2.2 E).nox
theorem p0 {X : Cx} {E : XK} : Passes CX0 X E := fun _ _ _ _ _ _ _ h => h.elim
section
variable {P : Program} {w : World} {K : PySem.W.Frag} {mg : PySem.Str → Option Value} {base : Heap} {k : Nat} {f : Addr} {qual : PySem.Str} {sc : Scope} {cdv : Value} {N ps : List PySem.Str} {E : XK}
theorem bX_cx (SC : FnScope N ps sc) : CxG (bX P w K mg base k N qual sc f cdv E) K k :=
  ⟨⟨fun _ => rfl, fun _ => SC.nd, fun i => by have := i.2.1.un; show (i.1.1.deeper _).units + 100 < _; omega, fun _ => rfl⟩, fun i => i.2.2, fun i => i.2.1⟩
theorem sr_start {H : Hp} {μ : Mu} : ∀ {args : List Val} {vs : List V} (n : Nat), RepAll K H μ args vs → SR K H μ (args.map some ++ List.replicate n none) (vs.map some ++ List.replicate n none) := by
  intro args vs n r
  refine ⟨by simp [r.length], fun i v e => ?_⟩
  by_cases hi : i < args.length
  · have hi' : i < vs.length := r.length.symm ▸ hi
    rw [List.getElem?_append_left (by simpa using hi), List.getElem?_map] at e
    rw [List.getElem?_append_left (by simpa using hi'), List.getElem?_map]
    cases ea : args[i]? with
    | none => rw [ea] at e; cases e
    | some u =>
      rw [ea] at e
      cases e
      obtain ⟨y, h1, h2⟩ := r.get ea
      exact ⟨y, by rw [h1]; rfl, h2⟩
  · rw [List.getElem?_append_right (by simpa using hi), List.getElem?_replicate] at e
    split at e <;> cases e
/-- what a body's mirror says of a call -/
theorem body_done {mb : Sx} {n np : Nat} {μ : Mu} {H : Hp} {Q : VK} {args : List Val} {s : S} (hq : (mkFn n np mb args s).wp (RtP K μ H Q) (XP K μ H E)) :
    args.length = np ∧ SW K ⟨[] :: μ.fr, μ.hid⟩ H { nx := fun _ H' => Q .non H', rt := Q } E (mb (args.map some ++ List.replicate (n - np) none) ([] :: s)) := by
  unfold mkFn at hq
  split at hq
  · rename_i hl
    refine ⟨hl, ?_⟩
    have fin : ∀ (v : Val) (s1 : S), (finish v s1).wp (RtP K μ H Q) (XP K μ H E) → VP K ⟨[] :: μ.fr, μ.hid⟩ H Q v s1 := by
      intro v s1 h x H' μ' g m r
      obtain ⟨fr0, hid'⟩ := μ'
      cases s1 with
      | nil => exact False.elim h
      | cons cs r1 =>
        have sh := m.shp
        cases fr0 with
        | nil => simp at sh
        | cons fr rr =>
          obtain ⟨er, _⟩ := grow_pop g
          subst er
          have g' : Grow μ H μ H' := by
            obtain ⟨b, e, hb⟩ := g.ext
            exact ⟨⟨[], exts_nil.symm, by simp⟩, fun x hx => .inr hx, fun x hx => hx, fun a o ho => g.kp a o ⟨fun q hq => by
              rcases List.mem_cons.mp hq with e | hq
              · rw [e]; simp
              · exact ho.1 q hq, ho.2⟩, fun q hq => g.lv q (List.mem_cons_of_mem _ hq), g.hk⟩
          have hsub : ∀ x, μ.hid x → x ∈ fr ∨ hid' x := fun x hx => .inr (g.hs x hx)
          have m' : Mem K H' μ r1 := mem_pop (hid' := μ.hid) hsub m
          have h : (ofO (retOf r1.length cs v) r1).wp (RtP K μ H Q) (XP K μ H E) := h
          cases er : retOf r1.length cs v with
          | none => rw [er] at h; exact False.elim h
          | some q =>
            rw [er] at h
            have h : RtP K μ H Q q r1 := h
            have frzQ : ∀ u, frz r1.length cs 8 v = some u → RtP K μ H Q (.val u) r1 → Q x H' := fun u eu h => by
              refine h x H' g' m' ?_
              have q := frz_rep m 8 v x u r eu
              exact Rep.sub (μ := ⟨μ.fr, hid'⟩) (μ' := μ) (fun _ _ _ e => e) (fun b hb => ⟨hb.1, fun z => hb.2 (g.hs b z)⟩) u x q
            unfold retOf at er
            split at er
            · rename_i f n
              split at er
              · rename_i ef
                split at er
                · rename_i xs ex
                  split at er
                  · rename_i hb
                    cases er
                    unfold Rep at r
                    obtain ⟨a, ea, la⟩ := r
                    subst ea
                    have e2 : lk (cs :: r1) f n = some (.lst xs) := by unfold lk; rw [if_pos ef, ex]
                    obtain ⟨vs, hv, hl, hr⟩ := m.cel f n a _ la e2
                    have el : μ.fr.length = r1.length := by have := congrArg List.length m'.shp; simpa using this
                    have afr : a ∈ fr := by
                      unfold lk at la
                      rw [if_pos (ef.trans el.symm)] at la
                      exact List.mem_of_getElem? la
                    have hH : H a = none := by
                      obtain ⟨b, e, hb⟩ := g.ext
                      simp only [exts, List.nil_append, List.cons.injEq] at e
                      exact hb a (e.1 ▸ afr)
                    have ahid : ¬ μ.hid a := fun z => by
                      have := m.sep fr List.mem_cons_self a afr
                      exact this (g.hs a z)
                    refine h a vs H' ⟨⟨[], exts_nil.symm, by simp⟩, fun x hx => hx.elim (fun z => .inl (z ▸ hH)) .inr, fun x hx => .inr hx, g'.kp, g'.lv, g'.hk⟩ ?_ hH ahid hv hl ?_
                    · exact mem_pop (hid' := (μ.hide a).hid) (fun x hx => hx.elim (fun z => .inl (z ▸ afr)) fun z => .inr (g.hs x z)) m
                    · exact repAll_pop (hid' := (μ.hide a).hid) (fun x hx => hx.elim (fun z => .inl (z ▸ afr)) fun z => .inr (g.hs x z)) xs vs (by rw [el]; exact hb) hr
                  · cases ef8 : frz r1.length cs 8 (.ref f n) with
                    | none => rw [ef8] at er; cases er
                    | some u => rw [ef8] at er; cases er; exact frzQ u ef8 h
                · cases er
              · rename_i ef
                cases er
                refine h x H' g' m' ?_
                unfold Rep at r ⊢
                obtain ⟨a, ea, la⟩ := r
                have el : μ.fr.length = r1.length := by have := congrArg List.length m'.shp; simpa using this
                unfold lk at la
                rw [if_neg (by show ¬ f = μ.fr.length; rw [el]; exact ef)] at la
                exact ⟨a, ea, la⟩
            · cases ef8 : frz r1.length cs 8 v with
              | none => rw [ef8] at er; cases er
              | some u => rw [ef8] at er; cases er; exact frzQ u ef8 h
    unfold SW
    cases e : mb (args.map some ++ List.replicate (n - np) none) ([] :: s) with
    | nx ρ s1 =>
      rw [e] at hq
      intro σ H' μ' g m r
      exact fin .non s1 hq .non H' μ' g m (by unfold Rep; rfl)
    | rt v s1 => rw [e] at hq; exact fin v s1 hq
    | bk ρ s1 => rw [e] at hq; exact False.elim hq
    | ct ρ s1 => rw [e] at hq; exact False.elim hq
    | ex e1 s1 => rw [e] at hq; exact False.elim hq
    | no => rw [e] at hq; exact False.elim hq
  · exact False.elim hq
/-- THE BODY: a def whose body has a sound mirror keeps the mirror's promise -/
theorem fn_M {x : PySem.Str} {st : Stmt} {fd : FuncData} {mb : Sx} {n np : Nat} (F : L2.Fun K x qual st f fd) (SC : FnScope N ps (defScope st)) (hnp : ps.length = np) (hN : N.length = n)
    (hbody : ∀ (cdv : Value) (E : XK), MSs (bX P w K mg base k N qual (defScope st) f cdv E) K E (defBody st) mb) : FnG P w K mg base CX0 (k + 1) f fd ps (spOf K np (mkFn n np mb)) := by
  obtain ⟨oc, od, kV, doc, pm, an, cdv, ct, osl, rfl, lk, hcd⟩ := F.ex
  have len : ∀ vs H Q E, spOf K np (mkFn n np mb) vs H Q E → vs.length = ps.length := fun vs H Q E h => h.1.trans hnp.symm
  refine ⟨len, fun A outer s H args us vs Q E hr hgd e0 hb r hsp => ?_⟩
  have hl := len _ _ _ _ hsp
  have inK : K.In s.heap := e0.mod.kin.keeps fun b o e => (e0.bs b o e).1
  have noL : s.heap.NoLimit := e0.mod.nolimit.keeps fun b o e => (e0.bs b o e).1
  have kinds : ∀ y ∈ ps.zip us, (defScope st).names.lookup y.1 = some .local ∨ ((defScope st).names.lookup y.1 = some .cell ∧ ((cellsFrom (s.heap.objs.size + 1) (defScope st).names []).lookup y.1).isSome = true) := by
    intro y hy
    exact (SC.par y.1 (List.of_mem_zip (a := y.1) (b := y.2) hy).1).imp id fun q => ⟨q, PySem.W.cellsFrom_some _ _ _ (.inl q)⟩
  refine codeAny_call_function hr.depth (inK _ _ lk) rfl SC.co SC.gen rfl (PySem.W.codeRec_of inK hcd) (hb _ _ _ _ ?_)
  refine wpAny_newFunctionEnv_cells SC.kind kinds fun env he s1 x => ?_
  subst he
  refine ⟨noL.keeps x.toInCall.keep, codeAny_func ?_⟩
  obtain ⟨_, μ, sM, as, mem, rep, hq⟩ := hsp
  obtain ⟨el, hsw⟩ := body_done hq
  obtain ⟨t, ht, hs⟩ := (hbody cdv E).ex
  have I := inv_start SC hr.hd e0 hl r x (CX := CX0) (E := E) (N := N)
  have hstart : L2.start N vs = vs.map some ++ List.replicate (n - np) none := by
    unfold L2.start
    rw [hN, hl, hnp]
  have q := hs (L2.start N vs) H _ ⟨[] :: μ.fr, μ.hid⟩ ([] :: sM) _ (hstart ▸ sr_start _ (repAll_push μ.hid rep)) (mem_push mem) hsw
  refine wpAny_mono ((ht ⟨⟨A, outer, s, H⟩, hr.deeper _, hgd⟩).nox.run [] s1 (L2.start N vs) H _ I q) (fun fl s' hs => ?_) fun e s' hs => hs
  cases fl with
  | ret u =>
    obtain ⟨v, σ', H', J, rv, q⟩ := hs
    exact ⟨v, H', J.os, J.bare, J.base, J.hok, rv, q⟩
  | next =>
    obtain ⟨σ', H', J, q⟩ := hs
    exact ⟨.non, H', J.os, J.bare, J.base, J.hok, rfl, q⟩
  | brk => exact (let ⟨_, _, _, q⟩ := hs; False.elim q)
  | cont => exact (let ⟨_, _, _, q⟩ := hs; False.elim q)
end
/-! the law's end -/
section
variable {P : Program} {w : World} {K : PySem.W.Frag}
/-- the heap that is told at the law's entry: the script, or nothing -/
def inH (h : Heap) (a : Addr) (ns : List Int) (vs : List Value) (H : Hp) : Prop :=
  (H = (fun _ => none) ∧ K.lookup a = some { cls := .type "list", data := .seq vs.toArray }) ∨
  (H = (fun b => if b = a then some (.frz { cls := .type "list", data := .seq vs.toArray } (.lst (ns.map V.int))) else none) ∧ K.lookup a = none)
theorem inH_some {h : Heap} {a b : Addr} {ns : List Int} {vs : List Value} {H : Hp} {o : HO} (q : inH (K := K) h a ns vs H) (e : H b = some o) : b = a ∧ o = .frz { cls := .type "list", data := .seq vs.toArray } (.lst (ns.map V.int)) ∧ K.lookup a = none := by
  rcases q with ⟨rfl, _⟩ | ⟨rfl, hk⟩
  · cases e
  · have e : (if b = a then some (HO.frz { cls := .type "list", data := .seq vs.toArray } (.lst (ns.map V.int))) else none) = some o := e
    split at e
    · cases e
      exact ⟨by assumption, rfl, hk⟩
    · cases e
theorem script_rep {μ : Mu} {H : Hp} : ∀ (ns : List Int), RepAll K H μ (ns.map Val.int) (ns.map V.int)
  | [] => .nil
  | n :: ns => .cons (by unfold Rep; rfl) (script_rep ns)
/-- the promise at the heap behind the top -/
theorem law_M {mg mb : PySem.Str → Option Value} {k : Nat} {fa a : Addr} {fd : FuncData} {x : PySem.Str} {m : Fn} {s₁ : Shared} {vs : List Value} {ns : List Int}
    (inK : K.In s₁.heap) (hns : s₁.heap.Ns mainGlobals mg) (hb : s₁.heap.Ns builtinsNs mb) (hbb : ∀ x : PySem.Str, x ≠ "__name__" → mb x = bootBuiltins x) (noL : s₁.heap.NoLimit) (hg : s₁.gens = #[])
    (ha : s₁.heap.get? a = some { cls := .type "list", data := .seq vs.toArray }) (hi : IntsAre vs ns) (hl : ns.length ≤ sizeLine) (hr : Room k callerA)
    (F : ∀ base : Heap, K.In base → base.Ns mainGlobals mg → FnG P w K mg base CX0 k fa fd [x] (spOf K 1 m)) (hbind : ∀ (s : Shared) (u : Value), BindsTo s fd ⟨[u], []⟩ [(x, u)])
    (hm : ∃ s', m [.scr (ns.map Val.int)] [] = .ok (.val (.bl true)) s') :
    codeAny (model P w) callerA (.call (.ref fa) ⟨[.ref a], []⟩) (fun r s' => r = .ok (.ret (.bool true)) ∧ OldK s₁.heap s'.heap ∧ s'.os = s₁.os ∧ AllBare s'.gens) s₁ := by
  obtain ⟨H, hH⟩ : ∃ H, inH (K := K) s₁.heap a ns vs H := by
    cases hk : K.lookup a with
    | some o =>
      have e := inK a o hk
      rw [ha] at e
      cases e
      exact ⟨_, .inl ⟨rfl, hk⟩⟩
    | none => exact ⟨_, .inr ⟨rfl, hk⟩⟩
  have base_of : ∀ {b : Addr} {o : Obj}, s₁.heap.get? b = some o → H b = none → (hidT s₁.heap H).get? b = some o := fun e n => hidT_get e n
  have nod : ∀ {b : Addr} {o : Obj} {es : Array DictEntry} {ep : Nat}, s₁.heap.get? b = some o → o.data = .dict es ep → H b = none := fun {b o es ep} e d => by
    cases q : H b with
    | none => rfl
    | some u =>
      obtain ⟨rfl, _, _⟩ := inH_some hH q
      rw [ha] at e; cases e; cases d
  have nsK : ∀ {b : Addr} {m : PySem.Str → Option Value}, s₁.heap.Ns b m → (hidT s₁.heap H).Ns b m := fun ⟨o, es, ep, e, d, r⟩ => ⟨o, es, ep, base_of e (nod e d), d, r⟩
  have inB : K.In (hidT s₁.heap H) := fun b o e => base_of (inK b o e) (by
    cases q : H b with
    | none => rfl
    | some u =>
      obtain ⟨rfl, _, hk⟩ := inH_some hH q
      rw [hk] at e; cases e)
  have hok : HOk P w H s₁.heap := fun b u z => by
    obtain ⟨rfl, rfl, _⟩ := inH_some hH z
    exact ⟨ha, by rw [List.length_map]; exact hl, vs, _, vals_ints hi, ha⟩
  obtain ⟨mc, l1, l2⟩ := noL
  have hM : Mod K mg (hidT s₁.heap H) := ⟨inB, nsK hns, ⟨mb, nsK hb, hbb⟩, ⟨mc, nsK l1, l2⟩⟩
  have e0 : Env0 P w K mg (hidT s₁.heap H) callerA [] s₁ H := ⟨rfl, hM, fun b o e => of_hidT e, Nat.le_of_eq (hidT_size _ _), trivial, fun b hb => absurd (show b ∈ ([] : List Addr) from hb) (by simp), hok, .of_eq hg⟩
  obtain ⟨s', hm⟩ := hm
  have hsp : spOf K 1 m [.ref a] H (fun v _ => v = .bl true) fun _ _ _ => False := by
    refine ⟨rfl, ⟨[], fun _ => False⟩, [], [.scr (ns.map Val.int)], ⟨rfl, by simp, by simp, by simp [lk], by simp [lk], fun _ h => h.elim⟩, .cons ?_ .nil, ?_⟩
    · have el := hi.length
      unfold Rep
      refine ⟨a, _, rfl, ?_, by rw [List.length_map]; exact hl, script_rep ns⟩
      rcases hH with ⟨_, hk⟩ | ⟨rfl, _⟩
      · exact .inr fun H' => .inr ⟨_, vs.toArray, _, hk, rfl, rfl, rfl, by rw [List.size_toArray, el]; exact hl, by simpa using vals_ints hi⟩
      · exact .inl ⟨.inr ⟨_, if_pos rfl⟩, by simp, fun z => z⟩
    · rw [hm]
      intro x H' _ _ r
      unfold Rep at r
      exact r
  refine codeAny_mono ((F _ inB (nsK hns)).go callerA [] s₁ H ⟨[.ref a], []⟩ [.ref a] [.ref a] _ _ hr rfl e0 (hbind s₁ (.ref a)) (.cons rfl .nil) hsp) fun r s' h => ?_
  cases r with
  | error e => exact False.elim h
  | ok fl =>
    cases fl with
    | next => exact False.elim h
    | brk => exact False.elim h
    | cont => exact False.elim h
    | ret u =>
      obtain ⟨v, H', os, bare, un, hok', r', q⟩ := h
      have q' : v = .bl true := q
      subst q'
      obtain rfl : u = Value.bool true := r'
      refine ⟨rfl, OldK.of_keep fun b o e => ?_, os, bare⟩
      cases q : H b with
      | none => exact un.keep b o e q (by intro z; exact absurd (show b ∈ ([] : List Addr) from z) (by simp)) (by simp)
      | some u =>
        obtain ⟨rfl, rfl, _⟩ := inH_some hH q
        obtain ⟨e1, _⟩ := hok b _ q
        obtain ⟨e2, _⟩ := hok' b _ (un.frzs b _ _ q)
        rw [e] at e1; cases e1
        exact e2
/-- the goal that k_head leaves, from the mirror of the law -/
theorem walk_M {l : PySem.W.OpenLaw} {n k : Nat} {q : Program} {loose : List PySem.Str} {XP : (PySem.Str → Option Value) → Heap → Prop} {YP : World → Heap → Prop} {d : DefRec} {K : Params → PySem.W.Frag} {x : PySem.Str} {m : List Int → Fn}
    (hn : l.most = some n) (hn2 : n ≤ sizeLine) (hdf : d.params.defaults = []) (hr : Room k callerA)
    (hY : ∀ (w : World) (h : Heap), YP w h → (K w.params).In h)
    (F : ∀ (w : World) (mg : PySem.Str → Option Value) (fa : Addr) (h : Heap), (K w.params).In h → h.Ns mainGlobals mg → mg d.name = some (.ref fa) →
      ∃ fd : FuncData, (∀ (s : Shared) (u : Value), BindsTo s fd ⟨[u], []⟩ [(x, u)]) ∧
        ∀ (ns : List Int) (base : Heap), (K w.params).In base → base.Ns mainGlobals mg → FnG l.prog w (K w.params) mg base CX0 k fa fd [x] (spOf (K w.params) 1 (m ns)))
    (hm : ∀ ns : List Int, ns.length ≤ n → (∀ z ∈ ns, Builtin.Int.intBits z ≤ 1048576) → ∃ s', m ns [.scr (ns.map Val.int)] [] = .ok (.val (.bl true)) s') :
    PySem.W.WalkO q loose XP YP l.row.toRowW d [] (fun f vs => PySem.call f vs) := by
  refine Att.attach_callB hn hdf fun w s₀ s₁ mg mb fa o pm cd doc a vs ns G Y ho hd hcd hmg hobj hints hlen hbits hg => ?_
  have inK := hY w _ Y
  obtain ⟨fd, hb, hF⟩ := F w mg fa _ inK G.T.g hmg
  exact law_M inK G.T.g G.T.b G.T.builtins G.T.nolimit hg hobj hints (Nat.le_trans hlen hn2) hr (hF ns) hb (hm ns hlen hbits)
end
/-- a def of the text, with its promise -/
def Has (P : Program) (w : World) (K : PySem.W.Frag) (mg : PySem.Str → Option Value) (base : Heap) (k : Nat) (x : PySem.Str) (ps : List PySem.Str) (np : Nat) (m : Fn) : Prop :=
  ∃ (f : Addr) (fd : FuncData), mg x = some (.ref f) ∧ PySem.W.keepIn K (.ref f) = true ∧ Binds K fd ps [] ∧ FnG P w K mg base CX0 k f fd ps (spOf K np m)
theorem all_ex {P : Program} {w : World} {K : PySem.W.Frag} {mg : PySem.Str → Option Value} {k : Nat} {fa : Addr} {x : PySem.Str} {m : Nat → Fn} (u : List Int → Nat)
    (h : ∃ fd : FuncData, (∀ (s : Shared) (v : Value), BindsTo s fd ⟨[v], []⟩ [(x, v)]) ∧ ∀ (N : Nat) (base : Heap), K.In base → base.Ns mainGlobals mg → FnG P w K mg base CX0 k fa fd [x] (spOf K 1 (m N))) :
    ∃ fd : FuncData, (∀ (s : Shared) (v : Value), BindsTo s fd ⟨[v], []⟩ [(x, v)]) ∧ ∀ (ns : List Int) (base : Heap), K.In base → base.Ns mainGlobals mg → FnG P w K mg base CX0 k fa fd [x] (spOf K 1 (m (u ns))) :=
  let ⟨fd, hb, hF⟩ := h
  ⟨fd, hb, fun ns base a b => hF (u ns) base a b⟩
end FM

set_option autoImplicit false
/-! mirrors run -/
namespace FM
open PySem PySem.Spec PyProof.Rows L2
section
variable (ρ : FM.Env) (s : S)
@[simp] theorem run_var (i : Nat) : eVar i ρ s = (match ρ[i]? with | some (some v) => .ok v s | _ => .no) := rfl
@[simp] theorem run_c (v : Val) : eC v ρ s = .ok v s := rfl
@[simp] theorem run_op (f : S → Val → Val → Option Val) (a b : Ex) : eOp f a b ρ s = (a ρ s).bind fun x s1 => (b ρ s1).bind fun y s2 => ofO (f s2 x y) s2 := rfl
@[simp] theorem run_op1 (f : S → Val → Option Val) (a : Ex) : eOp1 f a ρ s = (a ρ s).bind fun x s1 => ofO (f s1 x) s1 := rfl
@[simp] theorem run_anil : aNil ρ s = .ok [] s := rfl
@[simp] theorem run_acons (a : Ex) (r : Ax) : aCons a r ρ s = (a ρ s).bind fun x s1 => (r ρ s1).bind fun xs s2 => .ok (x :: xs) s2 := rfl
@[simp] theorem run_tup (a : Ax) : eTup a ρ s = (a ρ s).bind fun xs s1 => .ok (.tup xs) s1 := rfl
@[simp] theorem run_eif (c : Tx) (a b : Ex) : eIf c a b ρ s = (c ρ s).bind fun t s1 => if t = true then a ρ s1 else b ρ s1 := rfl
@[simp] theorem run_and (a b : Ex) : eAnd a b ρ s = (a ρ s).bind fun x s1 => match x with
  | .bl true => b ρ s1
  | .bl false => .ok (.bl false) s1
  | _ => .no := rfl
@[simp] theorem run_or (a b : Ex) : eOr a b ρ s = (a ρ s).bind fun x s1 => match x with
  | .bl true => .ok (.bl true) s1
  | .bl false => b ρ s1
  | _ => .no := rfl
@[simp] theorem run_not (a : Ex) : eNot a ρ s = (a ρ s).bind fun x s1 => match x with
  | .bl b => .ok (.bl (!b)) s1
  | _ => .no := rfl
@[simp] theorem run_chain (f g : S → Val → Val → Option Val) (a b c : Ex) : eChain f g a b c ρ s = (a ρ s).bind fun x s1 => (b ρ s1).bind fun y s2 => (ofO (f s2 x y) s2).bind fun t s3 => match t with
  | .bl true => (c ρ s3).bind fun z s4 => ofO (g s4 y z) s4
  | .bl false => .ok (.bl false) s3
  | _ => .no := rfl
@[simp] theorem run_call (f : S → List Val → Option Val) (a : Ax) : eCall f a ρ s = (a ρ s).bind fun xs s1 => ofO (f s1 xs) s1 := rfl
@[simp] theorem run_onone : oNone ρ s = .ok none s := rfl
@[simp] theorem run_osome (a : Ex) : oSome a ρ s = (a ρ s).bind fun x s1 => match x with
  | .int i => .ok (some i) s1
  | _ => .no := rfl
@[simp] theorem run_slT (a : Ex) (lo hi : Ox) : eSlT a lo hi ρ s = (a ρ s).bind fun x s1 => (lo ρ s1).bind fun l s2 => (hi ρ s2).bind fun h s3 => match x with
  | .tup xs => .ok (.tup (cutL xs l h)) s3
  | _ => .no := rfl
@[simp] theorem run_sl (a : Ex) (lo hi : Ox) : fSl a lo hi ρ s = (a ρ s).bind fun x s1 => (lo ρ s1).bind fun l s2 => (hi ρ s2).bind fun h s3 => match asL s3 x with
  | some xs => .ok (cutL xs l h) s3
  | none => .no := rfl
@[simp] theorem run_tval (a : Ex) : tVal a ρ s = (a ρ s).bind fun x s1 => match x with
  | .bl b => .ok b s1
  | _ => .no := rfl
@[simp] theorem run_tand (a b : Tx) : tAnd a b ρ s = (a ρ s).bind fun x s1 => if x = true then b ρ s1 else .ok false s1 := rfl
@[simp] theorem run_tor (a b : Tx) : tOr a b ρ s = (a ρ s).bind fun x s1 => if x = true then .ok true s1 else b ρ s1 := rfl
@[simp] theorem run_tnot (a : Tx) : tNot a ρ s = (a ρ s).bind fun x s1 => .ok (!x) s1 := rfl
@[simp] theorem run_tyes : tYes ρ s = .ok true s := rfl
@[simp] theorem run_gname (i : Nat) (v : Val) : FM.gName i v ρ = some (ρ.set i (some v)) := rfl
@[simp] theorem run_gtup (gs : List Gx) (xs : List Val) : FM.gTup gs (.tup xs) ρ = gAll gs xs ρ := rfl
@[simp] theorem run_gnil : gAll [] [] ρ = some ρ := rfl
@[simp] theorem run_gcons (g : Gx) (gs : List Gx) (v : Val) (vs : List Val) : gAll (g :: gs) (v :: vs) ρ = match g v ρ with
  | some ρ1 => gAll gs vs ρ1
  | none => none := rfl
@[simp] theorem run_iseq (a : Ex) : iSeq a ρ s = (a ρ s).bind fun x s1 => match asQ s1 x with
  | some xs => .ok (xs, still x xs) s1
  | none => .no := rfl
@[simp] theorem run_irange1 (a : Ex) : iRange1 a ρ s = (a ρ s).bind fun x s1 => match x with
  | .int n => if -(2 ^ 60) < n ∧ n ≤ sizeLine then .ok (rangeV 0 n.toNat, fun (_ : S) => true) s1 else .no
  | _ => .no := rfl
@[simp] theorem run_comp (it : Ix) (own : List Nat) (g : Gx) (t : Tx) (e : Ex) : fComp it own g t e ρ s = (it ρ s).bind fun p s1 => (compL p.2 g t e (FM.wipe ρ own) p.1 [] s1).nox := rfl
@[simp] theorem run_lst (a : Ax) : fLst a ρ s = a ρ s := rfl
@[simp] theorem run_range (a : Ex) : fRange a ρ s = (a ρ s).bind fun x s1 => match x with
  | .int n => if -(2 ^ 60) < n ∧ n ≤ sizeLine then .ok (rangeV 0 n.toNat) s1 else .no
  | _ => .no := rfl
@[simp] theorem run_list (a : Ex) : fList a ρ s = (a ρ s).bind fun x s1 => match asQ s1 x with
  | some xs => .ok xs s1
  | none => .no := rfl
@[simp] theorem run_add (a b : Ex) : fAdd a b ρ s = (a ρ s).bind fun x s1 => (b ρ s1).bind fun y s2 => match asLn s2 x, asLn s2 y with
  | some xs, some ys => if xs.length + ys.length ≤ sizeLine then .ok (xs ++ ys) s2 else .no
  | _, _ => .no := rfl
@[simp] theorem run_mul (a b : Ex) : fMul a b ρ s = (a ρ s).bind fun x s1 => (b ρ s1).bind fun y s2 => match asLn s2 x, y with
  | some xs, .int j => if -(2 ^ 63) ≤ j ∧ j < 2 ^ 63 ∧ xs.length * j.toNat ≤ sizeLine then .ok (List.replicate j.toNat xs).flatten s2 else .no
  | _, _ => .no := rfl
@[simp] theorem run_sorted (a : Ex) : fSortedI a ρ s = (a ρ s).bind fun x s1 => match (asL s1 x).bind intsOf with
  | some ns => .ok ((sortI ns).map .int) s1
  | none => .no := rfl
@[simp] theorem run_sortset (a : Ex) : fSortSetT a ρ s = (a ρ s).bind fun x s1 => match (asT x).bind intsOf with
  | some ns => if ns.length < 64 then .ok ((sortD ns).map .int) s1 else .no
  | none => .no := rfl
@[simp] theorem run_dead (f : Fx) : eDead f ρ s = (f ρ s).bind fun xs s1 => .ok (.lst xs) s1 := rfl
@[simp] theorem run_live (f : Fx) : eLive f ρ s = (f ρ s).bind fun xs s1 => pushC (.lst xs) s1 := rfl
@[simp] theorem run_push (c : Cell) (fr : List Cell) (r : S) : pushC c (fr :: r) = .ok (.ref r.length fr.length) ((fr ++ [c]) :: r) := rfl
@[simp] theorem run_tupF (f : Fx) : eTupleF f ρ s = (f ρ s).bind fun xs s1 => .ok (.tup xs) s1 := rfl
@[simp] theorem run_meth (f : S → Val → List Val → Option Val) (o : Ex) (a : Ax) : eMeth f o a ρ s = (o ρ s).bind fun x s1 => if (asL s1 x).isSome = true then (a ρ s1).bind fun xs s2 => ofO (f s2 x xs) s2 else .no := rfl
@[simp] theorem run_methT (f : S → Val → List Val → Option Val) (o : Ex) (a : Ax) : eMethT f o a ρ s = (o ρ s).bind fun x s1 => if (asT x).isSome = true then (a ρ s1).bind fun xs s2 => ofO (f s2 x xs) s2 else .no := rfl
@[simp] theorem run_alt (m n : Ex) : eAlt m n ρ s = match m ρ s with
  | .no => n ρ s
  | r => r := rfl
@[simp] theorem run_chg (f : S → List Val → List Val → Option (List Val)) (o : Ex) (a : Ax) : eChg f o a ρ s = (o ρ s).bind fun x s1 => if isL s1 x = true then (a ρ s1).bind fun xs s2 => chg s2 x (f s2 xs) xs else .no := rfl
@[simp] theorem run_extend (o : Ex) (f : Fx) : eExtend o f ρ s = (o ρ s).bind fun x s1 => if isL s1 x = true then (f ρ s1).bind fun ys s2 => chg s2 x (fun xs => if xs.length + ys.length ≤ sizeLine then some (xs ++ ys) else none) ys else .no := rfl
@[simp] theorem run_nil : sNil ρ s = .nx ρ s := rfl
@[simp] theorem run_cons (a r : Sx) : sCons a r ρ s = (a ρ s).then r := rfl
@[simp] theorem run_asg (e : Ex) (g : Gx) : sAsg e g ρ s = (e ρ s).seq fun v s1 => match g v ρ with
  | some ρ1 => .nx ρ1 s1
  | none => .no := rfl
@[simp] theorem run_par (i j : Nat) (a b : Ex) : sPar i j a b ρ s = (a ρ s).seq fun x s1 => (b ρ s1).seq fun y s2 => .nx ((ρ.set i (some x)).set j (some y)) s2 := rfl
@[simp] theorem run_expr (e : Ex) : sExpr e ρ s = (e ρ s).seq fun _ s1 => .nx ρ s1 := rfl
@[simp] theorem run_ret (e : Ex) : sRet e ρ s = (e ρ s).seq fun v s1 => .rt v s1 := rfl
@[simp] theorem run_if (c : Tx) (a b : Sx) : sIf c a b ρ s = (c ρ s).seq fun t s1 => if t = true then a ρ s1 else b ρ s1 := rfl
@[simp] theorem run_sub (o i e : Ex) : sSub o i e ρ s = (e ρ s).seq fun v s1 => (o ρ s1).seq fun x s2 => (i ρ s2).seq fun y s3 => match setL s3 x y v with
  | some s4 => .nx ρ s4
  | none => .no := rfl
@[simp] theorem run_augsub (f : S → Val → Val → Option Val) (o i e : Ex) : sAugSub f o i e ρ s = (o ρ s).seq fun x s1 => (i ρ s1).seq fun y s2 => (ofO (opIxN s2 x y) s2).seq fun old s3 => (e ρ s3).seq fun v s4 => (ofO (f s4 old v) s4).seq fun w s5 =>
  match setL s5 x y w with
  | some s6 => .nx ρ s6
  | none => .no := rfl
@[simp] theorem run_aug (i : Nat) (f : S → Val → Val → Option Val) (e : Ex) : sAug i f e ρ s = match ρ[i]? with
  | some (some x) => (e ρ s).seq fun y s1 => (ofO (f s1 x y) s1).seq fun z s2 => .nx (ρ.set i (some z)) s2
  | _ => .no := rfl
@[simp] theorem run_pass : sPass ρ s = .nx ρ s := rfl
@[simp] theorem run_brk : sBrk ρ s = .bk ρ s := rfl
@[simp] theorem run_cnt : sCnt ρ s = .ct ρ s := rfl
@[simp] theorem run_for (it : Ix) (g : Gx) (b : Sx) : sFor it g b ρ s = (it ρ s).seq fun p s1 => forL p.2 g b p.1 ρ s1 := rfl
@[simp] theorem run_while (n : Nat) (c : Tx) (b : Sx) : sWhile n c b ρ s = whileL c b n ρ s := rfl
@[simp] theorem run_fn (f : Fn) (a : Ax) : eFn f a ρ s = (a ρ s).bind fun xs s1 => (f xs s1).bind fun r s2 => match r with
  | .val v => .ok v s2
  | .cell (.lst ys) => .ok (.lst ys) s2
  | .cell (.dct _ _) => .no := rfl
@[simp] theorem run_fnL (f : Fn) (a : Ax) : eFnL f a ρ s = (a ρ s).bind fun xs s1 => (f xs s1).bind fun r s2 => match r with
  | .val v => .ok v s2
  | .cell (.lst ys) => pushC (.lst ys) s2
  | .cell (.dct _ _) => .no := rfl
end
/-! ### values -/
def vi (ns : List Int) : List Val := ns.map .int
@[simp] theorem vi_len (ns : List Int) : (vi ns).length = ns.length := by simp [vi]
@[simp] theorem vi_nil : vi [] = [] := rfl
@[simp] theorem vi_cons (n : Int) (ns : List Int) : vi (n :: ns) = .int n :: vi ns := rfl
@[simp] theorem vi_append (a b : List Int) : vi (a ++ b) = vi a ++ vi b := by simp [vi]
@[simp] theorem intsOf_vi : ∀ ns : List Int, intsOf (vi ns) = some ns
  | [] => rfl
  | n :: ns => by simp [intsOf, intsOf_vi ns]
theorem vi_get (ns : List Int) (i : Nat) : (vi ns)[i]? = (ns[i]?).map .int := by simp [vi]
@[simp] theorem pureAll_vi : ∀ ns : List Int, pureAll (vi ns) = true
  | [] => rfl
  | n :: ns => by simp [pureAll, pure, pureAll_vi ns]
mutual
theorem below_of_pure (k : Nat) : ∀ v : Val, pure v = true → below k v = true
  | .non, _ => rfl
  | .bl _, _ => rfl
  | .int _, _ => rfl
  | .str _, _ => rfl
  | .tup xs, h => by unfold pure at h; unfold below; exact belowAll_of_pure k xs h
  | .lst xs, h => by unfold pure at h; unfold below; exact belowAll_of_pure k xs h
  | .scr xs, h => by unfold pure at h; unfold below; exact belowAll_of_pure k xs h
  | .dct _ _, h => by unfold pure at h; cases h
  | .ref _ _, h => by unfold pure at h; cases h
theorem belowAll_of_pure (k : Nat) : ∀ v : List Val, pureAll v = true → belowAll k v = true
  | [], _ => rfl
  | x :: xs, h => by
    unfold pureAll at h; unfold belowAll
    simp only [Bool.and_eq_true] at h
    rw [below_of_pure k x h.1, belowAll_of_pure k xs h.2]; rfl
end
theorem frz_below {d : Nat} {fr : List Cell} {k : Nat} {v : Val} (h : below d v = true) : frz d fr k v = some v := by
  cases k <;> unfold frz <;> rw [if_pos h]
theorem retOf_pure {d : Nat} {fr : List Cell} {v : Val} (h : pure v = true) : retOf d fr v = some (.val v) := by
  have e := frz_below (fr := fr) (k := 8) (below_of_pure d v h)
  unfold retOf
  split
  · unfold pure at h; exact absurd h Bool.false_ne_true
  · rw [e]; rfl
theorem retOf_cell {d n : Nat} {fr : List Cell} {xs : List Val} (e : fr[n]? = some (.lst xs)) (h : pureAll xs = true) : retOf d fr (.ref d n) = some (.cell (.lst xs)) := by
  unfold retOf
  simp [e, belowAll_of_pure d xs h]
@[simp] theorem finish_cons (v : Val) (fr : List Cell) (r : S) : finish v (fr :: r) = ofO (retOf r.length fr v) r := rfl
@[simp] theorem retOf_int (d : Nat) (fr : List Cell) (i : Int) : retOf d fr (.int i) = some (.val (.int i)) := retOf_pure rfl
@[simp] theorem retOf_bl (d : Nat) (fr : List Cell) (i : Bool) : retOf d fr (.bl i) = some (.val (.bl i)) := retOf_pure rfl
@[simp] theorem res_pure {s : S} {k : Nat} {v : Val} (h : pure v = true) : res s k v = some v := by
  cases k <;> unfold res <;> rw [if_pos h]
theorem mapM_res_pure {s : S} {k : Nat} : ∀ {xs : List Val}, pureAll xs = true → xs.mapM (res s k) = some xs
  | [], _ => rfl
  | x :: xs, h => by
    unfold pureAll at h
    simp only [Bool.and_eq_true] at h
    simp [List.mapM_cons, res_pure h.1, mapM_res_pure h.2]
@[simp] theorem opEq_int (s : S) (i j : Int) : opEq s (.int i) (.int j) = some (.bl (decide (i = j))) := by
  simp [opEq, res, pure, shallow, toD, PyData.depth, veq, PyData.eqv]
  rfl
@[simp] theorem opNe_int (s : S) (i j : Int) : opNe s (.int i) (.int j) = some (.bl (decide (i ≠ j))) := by
  simp [opNe, res, pure, shallow, toD, PyData.depth, veq, PyData.eqv, bne]
  rfl
@[simp] theorem opLt_int (s : S) (i j : Int) : opLt s (.int i) (.int j) = some (.bl (decide (i < j))) := rfl
@[simp] theorem opLe_int (s : S) (i j : Int) : opLe s (.int i) (.int j) = some (.bl (decide (i ≤ j))) := rfl
@[simp] theorem opGt_int (s : S) (i j : Int) : opGt s (.int i) (.int j) = some (.bl (decide (j < i))) := rfl
@[simp] theorem opGe_int (s : S) (i j : Int) : opGe s (.int i) (.int j) = some (.bl (decide (j ≤ i))) := rfl
@[simp] theorem opAdd_int (s : S) (i j : Int) : opAdd s (.int i) (.int j) = some (.int (i + j)) := rfl
@[simp] theorem opSub_int (s : S) (i j : Int) : opSub s (.int i) (.int j) = some (.int (i - j)) := rfl
theorem opMod_int {s : S} {i j : Int} (h : 0 < j) : opMod s (.int i) (.int j) = some (.int (i % j)) := by simp [opMod, h]
theorem opDiv_int {s : S} {i j : Int} (h : 0 < j) (h2 : j < 2 ^ 30) : opDiv s (.int i) (.int j) = some (.int (i / j)) := by unfold opDiv; simp only; rw [if_pos ⟨h, h2⟩]
theorem opMul_r {s : S} {i j : Int} (h : j.natAbs < 2 ^ 64) : opMul s (.int i) (.int j) = some (.int (i * j)) := by unfold opMul; simp only; rw [if_pos (.inr h)]
theorem opMul_l {s : S} {i j : Int} (h : i.natAbs < 2 ^ 64) : opMul s (.int i) (.int j) = some (.int (i * j)) := by unfold opMul; simp only; rw [if_pos (.inl h)]
/-! ### the store -/
theorem lk_push {fr : List Cell} {s : S} {f n : Nat} (h : f < s.length) : lk (fr :: s) f n = lk s f n := by
  show (if f = s.length then fr[n]? else lk s f n) = _
  rw [if_neg (Nat.ne_of_lt h)]
theorem lk_top {fr : List Cell} {s : S} {n : Nat} : lk (fr :: s) s.length n = fr[n]? := by
  show (if s.length = s.length then fr[n]? else lk s s.length n) = _
  rw [if_pos rfl]
theorem up_push {fr : List Cell} {s : S} {f n : Nat} {c : Cell} (h : f < s.length) : up (fr :: s) f n c = fr :: up s f n c := by
  show (if f = s.length then fr.set n c :: s else fr :: up s f n c) = _
  rw [if_neg (Nat.ne_of_lt h)]
theorem up_top {fr : List Cell} {s : S} {n : Nat} {c : Cell} : up (fr :: s) s.length n c = fr.set n c :: s := by
  show (if s.length = s.length then fr.set n c :: s else _) = _
  rw [if_pos rfl]
theorem lk_up_same {s : S} {f n : Nat} {c c' : Cell} (h : lk s f n = some c') : lk (up s f n c) f n = some c := by
  rw [lk_up h, if_pos ⟨rfl, rfl⟩]
theorem up_up : ∀ (s : S) (f n : Nat) (c c' : Cell), up (up s f n c) f n c' = up s f n c'
  | [], _, _, _, _ => rfl
  | fr :: r, f, n, c, c' => by
    by_cases h : f = r.length
    · subst h; rw [up_top, up_top, up_top]; simp
    · have e : ∀ (fr : List Cell) (r : S) c, f ≠ r.length → up (fr :: r) f n c = fr :: up r f n c := fun fr r c h => by
        show (if f = r.length then fr.set n c :: r else fr :: up r f n c) = _
        rw [if_neg h]
      rw [e fr r c h, e _ _ c' (by rw [up_length]; exact h), up_up r f n c c', e fr r c' h]
theorem up_self : ∀ (s : S) (f n : Nat) (c : Cell), lk s f n = some c → up s f n c = s
  | [], _, _, _, h => by cases h
  | fr :: r, f, n, c, h => by
    by_cases e : f = r.length
    · subst e
      rw [lk_top] at h
      rw [up_top]
      obtain ⟨hn, hc⟩ := List.getElem?_eq_some_iff.mp h
      rw [← hc, List.set_getElem_self]
    · have h : (if f = r.length then fr[n]? else lk r f n) = some c := h
      rw [if_neg e] at h
      show (if f = r.length then fr.set n c :: r else fr :: up r f n c) = _
      rw [if_neg e, up_self r f n c h]
@[simp] theorem bInt_int (s : S) (i : Int) : bInt s [.int i] = some (.int i) := rfl
@[simp] theorem bAbs_int (s : S) (i : Int) : bAbs s [.int i] = some (.int (if i < 0 then -i else i)) := rfl
end FM

set_option autoImplicit false
/-! loops run -/
namespace FM
open PySem PySem.Spec PyProof.Rows L2
mutual
theorem beqV_refl : ∀ v : Val, beqV v v = true
  | .non => rfl
  | .bl b => by simp [beqV]
  | .int i => by simp [beqV]
  | .str x => by simp [beqV]
  | .tup xs => by unfold beqV; exact beqVs_refl xs
  | .lst xs => by unfold beqV; exact beqVs_refl xs
  | .scr xs => by unfold beqV; exact beqVs_refl xs
  | .dct a b => by unfold beqV; rw [beqVs_refl a, beqVs_refl b]; rfl
  | .ref f n => by simp [beqV]
theorem beqVs_refl : ∀ v : List Val, beqVs v v = true
  | [] => rfl
  | x :: xs => by unfold beqVs; rw [beqV_refl x, beqVs_refl xs]; rfl
end
theorem still_of {s : S} {v : Val} {xs : List Val} (h : asQ s v = some xs) : still v xs s = true := by
  cases v <;> try rfl
  rename_i f n
  simp only [asQ, asL] at h
  simp only [still]
  split at h
  · rename_i ys e
    cases h
    exact beqVs_refl _
  · cases h
theorem asL_push {fr : List Cell} {s : S} {v : Val} {xs : List Val} (h : asL s v = some xs) : asL (fr :: s) v = some xs := by
  cases v <;> simp only [asL] at h ⊢ <;> try exact h
  rename_i f n
  split at h
  · rename_i ys e
    cases h
    rw [lk_push (lk_lt e), e]
  · cases h
theorem asQ_push {fr : List Cell} {s : S} {v : Val} {xs : List Val} (h : asQ s v = some xs) : asQ (fr :: s) v = some xs := by
  cases v <;> simp only [asQ] at h ⊢ <;> first | exact h | exact asL_push h
/-- a comprehension whose parts change nothing -/
theorem compL_map {α : Type} {keep : S → Bool} {g : Gx} {t : Tx} {e : Ex} {ρ : FM.Env} {s : S} (f : α → Val) (p : α → Bool) (h : α → Val) (hk : keep s = true) :
    ∀ (l : List α) (acc : List Val), (∀ x ∈ l, ∃ ρ1, g (f x) ρ = some ρ1 ∧ t ρ1 s = .ok (p x) s ∧ (p x = true → e ρ1 s = .ok (h x) s)) →
      compL keep g t e ρ (l.map f) acc s = .ok (acc ++ (l.filter p).map h) s
  | [], acc, _ => by simp [compL, hk]
  | x :: l, acc, H => by
    obtain ⟨ρ1, h1, h2, h3⟩ := H x List.mem_cons_self
    have ih := fun acc => compL_map f p h hk l acc fun y hy => H y (List.mem_cons_of_mem _ hy)
    simp only [List.map_cons, compL, hk, if_true, h1, h2, bind_ok]
    cases e1 : p x with
    | true => simp [h3 e1, ih, e1]
    | false => simp [ih, e1]
/-- .. without a test -/
theorem compL_all {α : Type} {keep : S → Bool} {g : Gx} {e : Ex} {ρ : FM.Env} {s : S} (f : α → Val) (h : α → Val) (hk : keep s = true) (l : List α)
    (H : ∀ x ∈ l, ∃ ρ1, g (f x) ρ = some ρ1 ∧ e ρ1 s = .ok (h x) s) : compL keep g tYes e ρ (l.map f) [] s = .ok (l.map h) s := by
  have := compL_map (t := tYes) (keep := keep) f (fun _ => true) h hk l [] fun x hx => let ⟨ρ1, h1, h2⟩ := H x hx; ⟨ρ1, h1, rfl, fun _ => h2⟩
  rw [this, List.filter_eq_self.mpr (fun _ _ => rfl)]
  rfl
/-- .. that only picks -/
theorem compL_pick {α : Type} {keep : S → Bool} {g : Gx} {t : Tx} {e : Ex} {ρ : FM.Env} {s : S} (f : α → Val) (p : α → Bool) (h : α → Val) (hk : keep s = true) (l : List α)
    (H : ∀ x ∈ l, ∃ ρ1, g (f x) ρ = some ρ1 ∧ t ρ1 s = .ok (p x) s ∧ (p x = true → e ρ1 s = .ok (h x) s)) : compL keep g t e ρ (l.map f) [] s = .ok ((l.filter p).map h) s := by
  rw [compL_map f p h hk l [] H]; rfl
theorem asL_vi (s : S) (l : List Int) : asL s (.lst (vi l)) = some (vi l) := rfl
/-! ### in -/
theorem any_vi (k : Int) : ∀ (l : List Int), ((vi l).any fun z => veq z (.int k)) = decide (k ∈ l)
  | [] => rfl
  | n :: l => by
    have e : veq (.int n) (.int k) = decide (n = k) := by simp [veq, toD, PyData.eqv]; rfl
    show (veq (.int n) (.int k) || (vi l).any fun z => veq z (.int k)) = _
    rw [any_vi k l, e]
    by_cases h : n = k
    · simp [h]
    · simp [h, show ¬ k = n from fun e => h e.symm]
theorem inQ_vi {s : S} {v : Val} {l : List Int} (h : asQ s v = some (vi l)) (k : Int) : inQ s (.int k) v = some (decide (k ∈ l)) := by
  unfold inQ
  rw [h]
  simp only [res_pure (show pure (.int k) = true from rfl), mapM_res_pure (pureAll_vi l)]
  rw [if_pos (by simp [shallow, toD, PyData.depth]), any_vi]
theorem opIn_vi {s : S} {v : Val} {l : List Int} (h : asQ s v = some (vi l)) (k : Int) : opIn s (.int k) v = some (.bl (decide (k ∈ l))) := by simp [opIn, inQ_vi h]
theorem opNotIn_vi {s : S} {v : Val} {l : List Int} (h : asQ s v = some (vi l)) (k : Int) : opNotIn s (.int k) v = some (.bl (!decide (k ∈ l))) := by simp [opNotIn, inQ_vi h]
/-! ### all, any -/
@[simp] theorem boolsOf_map {α : Type} (f : α → Bool) : ∀ l : List α, boolsOf (l.map fun x => .bl (f x)) = some (l.map f)
  | [] => rfl
  | x :: l => by simp [boolsOf, boolsOf_map f l]
/-! ### == [] -/
theorem veq_nil (l : List Val) : veq (.lst l) (.lst []) = l.isEmpty := by
  cases l <;> simp [veq, toD, toDs, PyData.eqv, PyData.eqvAll]
theorem opEq_nil {s : S} {l : List Val} (h : pureAll l = true) : opEq s (.lst l) (.lst []) = some (.bl l.isEmpty) := by
  have h1 : pure (.lst l) = true := by unfold pure; exact h
  simp only [opEq, res_pure h1, res_pure (show pure (.lst []) = true from rfl), veq_nil]
  rw [if_pos (by simp [shallow, toD, toDs, PyData.depth, PyData.depthAll])]
theorem opNe_nil {s : S} {l : List Val} (h : pureAll l = true) : opNe s (.lst l) (.lst []) = some (.bl (!l.isEmpty)) := by
  have h1 : pure (.lst l) = true := by unfold pure; exact h
  simp only [opNe, res_pure h1, res_pure (show pure (.lst []) = true from rfl), veq_nil]
  rw [if_pos (by simp [shallow, toD, toDs, PyData.depth, PyData.depthAll])]
end FM
namespace FM
open PySem PySem.Spec PyProof.Rows L2
def rg (m : Nat) : List Int := (List.range m).map fun (i : Nat) => (i : Int)
theorem rangeV_rg (m : Nat) : rangeV 0 m = vi (rg m) := by
  unfold rangeV vi rg
  rw [List.map_map]
  exact List.map_congr_left fun i _ => by simp
theorem erase_idx (x : Int) : ∀ l : List Int, l.eraseIdx (l.idxOf x) = l.erase x
  | [] => rfl
  | y :: l => by
    by_cases h : y = x
    · subst h; simp
    · have hb : (y == x) = false := by simpa using h
      simp [List.idxOf_cons, hb, List.erase_cons, erase_idx x l]
theorem ix_last (s : S) {l : List Int} {x : Int} (h : l.getLast? = some x) : opIx s (.lst (vi l)) (.int (-1)) = some (.int x) := by
  have hl : l ≠ [] := by intro e; subst e; cases h
  have hp : 0 < l.length := List.length_pos_iff.mpr hl
  simp only [opIx, asQ, asL]
  rw [show FM.ixN (vi l).length (-1) = some (l.length - 1) by
    simp only [FM.ixN, vi_len]
    rw [if_neg (by decide), if_pos (by omega)]
    congr 1; omega]
  show (vi l)[l.length - 1]? = _
  rw [vi_get, ← List.getLast?_eq_getElem?, h]; rfl
@[simp] theorem opNeg_int (s : S) (i : Int) : opNeg s (.int i) = some (.int (-i)) := rfl
end FM

set_option autoImplicit false
/-! the text: mirrors -/
namespace FT
open PySem PySem.Spec PyProof.Rows L2 FM
def topS (i : Nat) : Stmt := PySem.Challenge.pw_freshtold_k31_claims_from_claims.main.body.getD i (.Pass ⟨0, 0, 0, 0⟩)
def b_is_waiting (N : Nat) : Sx := (sCons (sRet (eCall bAny (aCons (eDead (fComp (iSeq (eVar 0)) [3] (FM.gName 3) tYes (eAnd (eOp opEq (eOp opIx (eVar 3) (eC (.int 0))) (eVar 1)) (eCall bAll (aCons (eDead (fComp (iSeq (eOp opIx (eVar 3) (eC (.int 1)))) [4] (FM.gName 4) tYes (eOp opIn (eVar 4) (eVar 2)))) aNil))))) aNil)))
    sNil)
def m_is_waiting (N : Nat) : Fn := mkFn 5 3 (b_is_waiting N)
def b_left_by (N : Nat) : Sx := (sCons (sAsg (eLive (fRange (eVar 0))) (FM.gName 3))
    (sCons (sWhile N (tVal (eC (.bl true))) (sCons (sAsg (eDead (fComp (iSeq (eVar 3)) [5] (FM.gName 5) (tAnd (tVal (eOp opNotIn (eVar 5) (eVar 2))) (tNot (tVal (eFn (m_is_waiting N) (aCons (eVar 1) (aCons (eVar 5) (aCons (eVar 3) aNil))))))) (eVar 5))) (FM.gName 4))
    (sCons (sIf (tVal (eOp opEq (eVar 4) (eDead (fLst aNil)))) (sCons (sRet (eVar 3))
    sNil) sNil)
    (sCons (sExpr (eChg cRemove (eVar 3) (aCons (eOp opIx (eVar 4) (eOp1 opNeg (eC (.int 1)))) aNil)))
    sNil))))
    sNil))
def m_left_by (N : Nat) : Fn := mkFn 6 3 (b_left_by N)
def b_can_all_hold (N : Nat) : Sx := (sCons (sRet (eOp opEq (eFn (m_left_by N) (aCons (eVar 0) (aCons (eVar 1) (aCons (eTup aNil) aNil)))) (eDead (fLst aNil))))
    sNil)
def m_can_all_hold (N : Nat) : Fn := mkFn 2 2 (b_can_all_hold N)
def b_follows (N : Nat) : Sx := (sCons (sRet (eOr (eNot (eFn (m_can_all_hold N) (aCons (eVar 0) (aCons (eVar 1) aNil)))) (eOp opIn (eOp opIx (eVar 2) (eC (.int 0))) (eFn (m_left_by N) (aCons (eVar 0) (aCons (eVar 1) (aCons (eOp opIx (eVar 2) (eC (.int 1))) aNil)))))))
    sNil)
def m_follows (N : Nat) : Fn := mkFn 3 3 (b_follows N)
def b_law_alike (N : Nat) : Sx := (sCons (sRet (eAnd (eOp opEq (eVar 0) (eVar 1)) (eOp opEq (eCall bRepr (aCons (eVar 0) aNil)) (eCall bRepr (aCons (eVar 1) aNil)))))
    sNil)
def m_law_alike (N : Nat) : Fn := mkFn 2 2 (b_law_alike N)
def b_law_in_order (N : Nat) : Sx := (sCons (sAsg (eVar 1) (FM.gTup [(FM.gName 2), (FM.gName 3)]))
    (sCons (sRet (eOp opLt (eAlt (eMeth bIndex (eVar 0) (aCons (eVar 2) aNil)) (eMethT bIndexT (eVar 0) (aCons (eVar 2) aNil))) (eCall bMax (aCons (eDead (fComp (iSeq (eVar 3)) [4] (FM.gName 4) tYes (eAlt (eMeth bIndex (eVar 0) (aCons (eVar 4) aNil)) (eMethT bIndexT (eVar 0) (aCons (eVar 4) aNil))))) aNil))))
    sNil))
def m_law_in_order (N : Nat) : Fn := mkFn 5 2 (b_law_in_order N)
def b_law_all_orders (N : Nat) : Sx := (sCons (sAsg (eDead (fLst (aCons (eTup aNil) aNil))) (FM.gName 1))
    (sCons (sFor (iRange1 (eVar 0)) (FM.gName 2) (sCons (sAsg (eLive (fLst aNil)) (FM.gName 3))
    (sCons (sFor (iSeq (eVar 1)) (FM.gName 4) (sCons (sExpr (eExtend (eVar 3) (fComp (iRange1 (eVar 0)) [5] (FM.gName 5) (tVal (eOp opNotIn (eVar 5) (eVar 4))) (eOp opAdd (eVar 4) (eTup (aCons (eVar 5) aNil))))))
    sNil))
    (sCons (sAsg (eVar 3) (FM.gName 1))
    sNil))))
    (sCons (sRet (eVar 1))
    sNil)))
def m_law_all_orders (N : Nat) : Fn := mkFn 6 1 (b_law_all_orders N)
def b_law_is_by_all (N : Nat) : Sx := (sCons (sAsg (eDead (fComp (iSeq (eFn (m_law_all_orders N) (aCons (eVar 0) aNil))) [5] (FM.gName 5) (tVal (eOp opEq (eDead (fComp (iSeq (eVar 1)) [6] (FM.gName 6) (tNot (tVal (eFn (m_law_in_order N) (aCons (eVar 5) (aCons (eVar 6) aNil))))) (eVar 6))) (eDead (fLst aNil)))) (eVar 5))) (FM.gName 3))
    (sCons (sAsg (eDead (fComp (iSeq (eVar 3)) [5] (FM.gName 5) (tNot (tVal (eFn (m_law_in_order N) (aCons (eVar 5) (aCons (eVar 2) aNil))))) (eVar 5))) (FM.gName 4))
    (sCons (sRet (eFnL (m_law_alike N) (aCons (eDead (fLst (aCons (eFn (m_can_all_hold N) (aCons (eVar 0) (aCons (eVar 1) aNil))) (aCons (eFn (m_follows N) (aCons (eVar 0) (aCons (eVar 1) (aCons (eVar 2) aNil)))) aNil)))) (aCons (eDead (fLst (aCons (eOp opNe (eVar 3) (eDead (fLst aNil))) (aCons (eOp opEq (eVar 4) (eDead (fLst aNil))) aNil)))) aNil))))
    sNil)))
def m_law_is_by_all (N : Nat) : Fn := mkFn 7 3 (b_law_is_by_all N)
def b_law_claims_left (N : Nat) : Sx := (sCons (sAsg (eDead (fRange (eVar 0))) (FM.gName 3))
    (sCons (sWhile N (tVal (eC (.bl true))) (sCons (sAsg (eDead (fComp (iSeq (eVar 1)) [6, 7] (FM.gTup [(FM.gName 6), (FM.gName 7)]) (tVal (eOp opEq (eDead (fComp (iSeq (eVar 7)) [8] (FM.gName 8) (tVal (eOp opNotIn (eVar 8) (eVar 3))) (eVar 8))) (eDead (fLst aNil)))) (eVar 6))) (FM.gName 4))
    (sCons (sAsg (eDead (fComp (iSeq (eVar 3)) [6] (FM.gName 6) (tAnd (tVal (eOp opNotIn (eVar 6) (eVar 2))) (tVal (eOp opNotIn (eVar 6) (eVar 4)))) (eVar 6))) (FM.gName 5))
    (sCons (sIf (tVal (eOp opEq (eVar 5) (eDead (fLst aNil)))) (sCons (sRet (eVar 3))
    sNil) sNil)
    (sCons (sAsg (eDead (fComp (iSeq (eVar 3)) [6] (FM.gName 6) (tVal (eOp opNe (eVar 6) (eOp opIx (eVar 5) (eOp1 opNeg (eC (.int 1)))))) (eVar 6))) (FM.gName 3))
    sNil)))))
    sNil))
def m_law_claims_left (N : Nat) : Fn := mkFn 9 3 (b_law_claims_left N)
def b_law_follows (N : Nat) : Sx := (sCons (sIf (tVal (eOp opNe (eFn (m_law_claims_left N) (aCons (eVar 0) (aCons (eVar 1) (aCons (eTup aNil) aNil)))) (eDead (fLst aNil)))) (sCons (sRet (eC (.bl true)))
    sNil) sNil)
    (sCons (sRet (eOp opIn (eOp opIx (eVar 2) (eC (.int 0))) (eFn (m_law_claims_left N) (aCons (eVar 0) (aCons (eVar 1) (aCons (eOp opIx (eVar 2) (eC (.int 1))) aNil))))))
    sNil))
def m_law_follows (N : Nat) : Fn := mkFn 3 3 (b_law_follows N)
def b_law_take (N : Nat) : Sx := (sCons (sIf (tVal (eOp opEq (eOp opIx (eVar 0) (eC (.int 0))) (eC (.int 0)))) (sCons (sAsg (eOp opIx (eDead (fAdd (eDead (fSl (eOp opIx (eVar 0) (eC (.int 3))) (oSome (eOp opIx (eVar 0) (eC (.int 2)))) oNone)) (eDead (fLst (aCons (eC (.int 0)) aNil))))) (eC (.int 0))) (FM.gName 2))
    (sCons (sAugSub opAddI (eVar 0) (eC (.int 2)) (eC (.int 1)))
    (sCons (sIf (tVal (eOp opGe (eVar 2) (eOp opPow (eC (.int 10)) (eC (.int 18))))) (sCons (sSub (eVar 0) (eC (.int 0)) (eVar 2))
    sNil) sNil)
    (sCons (sAsg (eOp opAdd (eOp opAdd (eOp opMul (eOp opIx (eVar 0) (eC (.int 1))) (eC (.int 48271))) (eOp opMod (eCall bInt (aCons (eVar 2) aNil)) (eC (.int 2147483647)))) (eOp opMul (eC (.int 7919)) (eOp opIx (eVar 0) (eC (.int 2))))) (FM.gName 3))
    (sCons (sSub (eVar 0) (eC (.int 1)) (eOp opMod (eCall bInt (aCons (eVar 3) aNil)) (eC (.int 2147483647))))
    sNil))))) sNil)
    (sCons (sIf (tVal (eOp opGt (eOp opIx (eVar 0) (eC (.int 0))) (eC (.int 0)))) (sCons (sAsg (eOp opMod (eCall bInt (aCons (eOp opIx (eVar 0) (eC (.int 0))) aNil)) (eVar 1)) (FM.gName 4))
    (sCons (sSub (eVar 0) (eC (.int 0)) (eOp opDiv (eCall bInt (aCons (eOp opIx (eVar 0) (eC (.int 0))) aNil)) (eVar 1)))
    (sCons (sRet (eVar 4))
    sNil))) sNil)
    (sCons (sAsg (eOp opMod (eCall bInt (aCons (eOp opMul (eOp opAdd (eOp opIx (eVar 0) (eC (.int 1))) (eC (.int 1))) (eC (.int 39373))) aNil)) (eC (.int 1000000007))) (FM.gName 5))
    (sCons (sAsg (eOp opMod (eCall bInt (aCons (eOp opMul (eOp opMod (eCall bInt (aCons (eOp opMul (eVar 5) (eVar 5)) aNil)) (eC (.int 998244353))) (eC (.int 30011))) aNil)) (eC (.int 998244353))) (FM.gName 6))
    (sCons (sRet (eOp opMod (eCall bInt (aCons (eOp opDiv (eVar 6) (eC (.int 7))) aNil)) (eVar 1)))
    sNil)))))
def m_law_take (N : Nat) : Fn := mkFn 7 2 (b_law_take N)
def b_law_one (N : Nat) : Sx := (sCons (sRet (eOp opIx (eVar 1) (eFn (m_law_take N) (aCons (eVar 0) (aCons (eCall bLen (aCons (eVar 1) aNil)) aNil)))))
    sNil)
def m_law_one (N : Nat) : Fn := mkFn 2 2 (b_law_one N)
def b_law_mixed (N : Nat) : Sx := (sCons (sAsg (eLive (fLst aNil)) (FM.gName 2))
    (sCons (sFor (iSeq (eVar 1)) (FM.gName 3) (sCons (sExpr (eChg cInsert (eVar 2) (aCons (eFn (m_law_take N) (aCons (eVar 0) (aCons (eOp opAdd (eCall bLen (aCons (eVar 2) aNil)) (eC (.int 1))) aNil))) (aCons (eVar 3) aNil))))
    sNil))
    (sCons (sRet (eVar 2))
    sNil)))
def m_law_mixed (N : Nat) : Fn := mkFn 4 2 (b_law_mixed N)
def b_law_claim (N : Nat) : Sx := (sCons (sAsg (eFn (m_law_take N) (aCons (eVar 0) (aCons (eVar 1) aNil))) (FM.gName 2))
    (sCons (sAsg (eDead (fComp (iRange1 (eVar 1)) [5] (FM.gName 5) (tVal (eOp opNe (eVar 5) (eVar 2))) (eVar 5))) (FM.gName 3))
    (sCons (sAsg (eDead (fSl (eFn (m_law_mixed N) (aCons (eVar 0) (aCons (eVar 3) aNil))) oNone (oSome (eFn (m_law_one N) (aCons (eVar 0) (aCons (eDead (fLst (aCons (eC (.int 1)) (aCons (eC (.int 2)) (aCons (eC (.int 1)) (aCons (eC (.int 3)) (aCons (eC (.int 2)) aNil))))))) aNil)))))) (FM.gName 4))
    (sCons (sRet (eTup (aCons (eVar 2) (aCons (eTupleF (fSortedI (eVar 4))) aNil))))
    sNil))))
def m_law_claim (N : Nat) : Fn := mkFn 6 2 (b_law_claim N)
def b_law_claims (N : Nat) : Sx := (sCons (sPar 2 3 (eLive (fLst aNil)) (eFn (m_law_mixed N) (aCons (eVar 0) (aCons (eDead (fRange (eVar 1))) aNil))))
    (sCons (sFor (iRange1 (eIf (tVal (eOp opGt (eVar 1) (eC (.int 1)))) (eFn (m_law_one N) (aCons (eVar 0) (aCons (eDead (fLst (aCons (eC (.int 3)) (aCons (eC (.int 2)) (aCons (eC (.int 5)) (aCons (eC (.int 1)) (aCons (eC (.int 8)) (aCons (eC (.int 0)) aNil)))))))) aNil))) (eC (.int 0)))) (FM.gName 4) (sCons (sAsg (eFn (m_law_claim N) (aCons (eVar 0) (aCons (eVar 1) aNil))) (FM.gName 5))
    (sCons (sIf (tOr (tVal (eFn (m_law_in_order N) (aCons (eVar 3) (aCons (eVar 5) aNil)))) (tVal (eOp opEq (eFn (m_law_take N) (aCons (eVar 0) (aCons (eC (.int 8)) aNil))) (eC (.int 0))))) (sCons (sExpr (eChg cAppend (eVar 2) (aCons (eVar 5) aNil)))
    sNil) sNil)
    sNil)))
    (sCons (sRet (eVar 2))
    sNil)))
def m_law_claims (N : Nat) : Fn := mkFn 6 2 (b_law_claims N)
def b_law_are_many_right (N : Nat) : Sx := (sCons (sAsg (eFn (m_law_one N) (aCons (eVar 0) (aCons (eDead (fLst (aCons (eC (.int 16)) (aCons (eC (.int 24)) (aCons (eC (.int 20)) aNil))))) aNil))) (FM.gName 1))
    (sCons (sAsg (eTup (aCons (eFn (m_law_mixed N) (aCons (eVar 0) (aCons (eDead (fRange (eVar 1))) aNil))) (aCons (eLive (fLst aNil)) aNil))) (FM.gTup [(FM.gName 2), (FM.gName 3)]))
    (sCons (sFor (iRange1 (eFn (m_law_one N) (aCons (eVar 0) (aCons (eDead (fLst (aCons (eC (.int 14)) (aCons (eC (.int 24)) (aCons (eC (.int 9)) aNil))))) aNil)))) (FM.gName 4) (sCons (sAsg (eFn (m_law_claim N) (aCons (eVar 0) (aCons (eVar 1) aNil))) (FM.gName 5))
    (sCons (sExpr (eChg cAppend (eVar 3) (aCons (eIf (tVal (eFn (m_law_in_order N) (aCons (eVar 2) (aCons (eVar 5) aNil)))) (eVar 5) (eTup (aCons (eOp opIx (eOp opIx (eVar 5) (eC (.int 1))) (eC (.int 0))) (aCons (eOp opAdd (eTup (aCons (eOp opIx (eVar 5) (eC (.int 0))) aNil)) (eSlT (eOp opIx (eVar 5) (eC (.int 1))) (oSome (eC (.int 1))) oNone)) aNil)))) aNil)))
    sNil)))
    (sCons (sAsg (eLive (fComp (iSeq (eVar 3)) [7, 8] (FM.gTup [(FM.gName 7), (FM.gName 8)]) tYes (eTup (aCons (eVar 7) (aCons (eTupleF (fSortSetT (eVar 8))) aNil))))) (FM.gName 3))
    (sCons (sAsg (eLive (fComp (iSeq (eVar 3)) [5] (FM.gName 5) (tVal (eFn (m_law_in_order N) (aCons (eVar 2) (aCons (eVar 5) aNil)))) (eVar 5))) (FM.gName 3))
    (sCons (sIf (tNot (tVal (eFn (m_law_alike N) (aCons (eFn (m_can_all_hold N) (aCons (eVar 1) (aCons (eVar 3) aNil))) (aCons (eC (.bl true)) aNil))))) (sCons (sRet (eC (.bl false)))
    sNil) sNil)
    (sCons (sFor (iRange1 (eC (.int 3))) (FM.gName 4) (sCons (sAsg (eFn (m_law_claim N) (aCons (eVar 0) (aCons (eVar 1) aNil))) (FM.gName 5))
    (sCons (sIf (tNot (tVal (eFn (m_law_alike N) (aCons (eFn (m_follows N) (aCons (eVar 1) (aCons (eVar 3) (aCons (eVar 5) aNil)))) (aCons (eFn (m_law_follows N) (aCons (eVar 1) (aCons (eVar 3) (aCons (eVar 5) aNil)))) aNil))))) (sCons (sRet (eC (.bl false)))
    sNil) sNil)
    sNil)))
    (sCons (sAsg (eDead (fAdd (eVar 3) (eDead (fLst (aCons (eTup (aCons (eOp opIx (eVar 2) (eC (.int 0))) (aCons (eTup (aCons (eOp opIx (eVar 2) (eOp1 opNeg (eC (.int 1)))) aNil)) aNil))) (aCons (eTup (aCons (eOp opIx (eVar 2) (eOp1 opNeg (eC (.int 1)))) (aCons (eTup (aCons (eOp opIx (eVar 2) (eC (.int 0))) aNil)) aNil))) aNil)))))) (FM.gName 6))
    (sCons (sRet (eFnL (m_law_alike N) (aCons (eDead (fLst (aCons (eFn (m_can_all_hold N) (aCons (eVar 1) (aCons (eVar 6) aNil))) (aCons (eFn (m_follows N) (aCons (eVar 1) (aCons (eVar 6) (aCons (eTup (aCons (eOp opIx (eVar 2) (eC (.int 1))) (aCons (eTup (aCons (eOp opIx (eVar 2) (eC (.int 0))) aNil)) aNil))) aNil)))) aNil)))) (aCons (eDead (fLst (aCons (eC (.bl false)) (aCons (eC (.bl true)) aNil)))) aNil))))
    sNil)))))))))
def m_law_are_many_right (N : Nat) : Fn := mkFn 9 1 (b_law_are_many_right N)
def b_law_bag (N : Nat) : Sx := (sCons (sRet (eLive (fLst (aCons (eC (.int 0)) (aCons (eC (.int 1234567891)) (aCons (eC (.int 0)) (aCons (eDead (fComp (iSeq (eDead (fSl (eVar 0) oNone (oSome (eC (.int 63)))))) [1] (FM.gName 1) tYes (eCall bAbs (aCons (eVar 1) aNil)))) aNil)))))))
    sNil)
def m_law_bag (N : Nat) : Fn := mkFn 2 1 (b_law_bag N)
def b_law (N : Nat) : Sx := (sCons (sAsg (eFnL (m_law_bag N) (aCons (eVar 0) aNil)) (FM.gName 1))
    (sCons (sIf (tAnd (tVal (eOp opEq (eFn (m_law_take N) (aCons (eVar 1) (aCons (eC (.int 4)) aNil))) (eC (.int 0)))) (tNot (tVal (eFn (m_law_are_many_right N) (aCons (eVar 1) aNil))))) (sCons (sRet (eC (.bl false)))
    sNil) sNil)
    (sCons (sIf (tNot (tVal (eFn (m_law_alike N) (aCons (eDead (fLst (aCons (eFn (m_can_all_hold N) (aCons (eC (.int 0)) (aCons (eDead (fLst aNil)) aNil))) (aCons (eFn (m_can_all_hold N) (aCons (eC (.int 1)) (aCons (eTup aNil) aNil))) (aCons (eFn (m_can_all_hold N) (aCons (eC (.int 0)) (aCons (eTup aNil) aNil))) aNil))))) (aCons (eDead (fMul (eDead (fLst (aCons (eC (.bl true)) aNil))) (eC (.int 3)))) aNil))))) (sCons (sRet (eC (.bl false)))
    sNil) sNil)
    (sCons (sFor (iRange1 (eC (.int 4))) (FM.gName 2) (sCons (sAsg (eFn (m_law_one N) (aCons (eVar 1) (aCons (eDead (fLst (aCons (eC (.int 3)) (aCons (eC (.int 4)) (aCons (eC (.int 2)) (aCons (eC (.int 7)) (aCons (eC (.int 5)) aNil))))))) aNil))) (FM.gName 3))
    (sCons (sAsg (eFn (m_law_claims N) (aCons (eVar 1) (aCons (eVar 3) aNil))) (FM.gName 4))
    (sCons (sPar 5 6 (eCall bRepr (aCons (eVar 4) aNil)) (eOp opEq (eFn (m_law_claims_left N) (aCons (eVar 3) (aCons (eVar 4) (aCons (eTup aNil) aNil)))) (eDead (fLst aNil))))
    (sCons (sAsg (eCall bTuple (aCons (eFn (m_law_mixed N) (aCons (eVar 1) (aCons (eDead (fAdd (eVar 4) (eDead (fSl (eVar 4) oNone (oSome (eC (.int 2))))))) aNil))) aNil)) (FM.gName 7))
    (sCons (sIf (tNot (tVal (eFn (m_law_alike N) (aCons (eDead (fLst (aCons (eFn (m_can_all_hold N) (aCons (eVar 3) (aCons (eVar 4) aNil))) (aCons (eFn (m_can_all_hold N) (aCons (eVar 3) (aCons (eVar 7) aNil))) aNil)))) (aCons (eDead (fLst (aCons (eVar 6) (aCons (eVar 6) aNil)))) aNil))))) (sCons (sRet (eC (.bl false)))
    sNil) sNil)
    (sCons (sFor (iRange1 (eC (.int 3))) (FM.gName 8) (sCons (sAsg (eIf (tAnd (tVal (eOp opNe (eVar 4) (eDead (fLst aNil)))) (tVal (eOp opEq (eFn (m_law_take N) (aCons (eVar 1) (aCons (eC (.int 4)) aNil))) (eC (.int 0))))) (eFn (m_law_one N) (aCons (eVar 1) (aCons (eVar 4) aNil))) (eFn (m_law_claim N) (aCons (eVar 1) (aCons (eVar 3) aNil)))) (FM.gName 9))
    (sCons (sAsg (eFn (m_law_follows N) (aCons (eVar 3) (aCons (eVar 4) (aCons (eVar 9) aNil)))) (FM.gName 6))
    (sCons (sIf (tNot (tVal (eFn (m_law_alike N) (aCons (eDead (fLst (aCons (eFn (m_follows N) (aCons (eVar 3) (aCons (eVar 4) (aCons (eVar 9) aNil)))) (aCons (eFn (m_follows N) (aCons (eVar 3) (aCons (eVar 7) (aCons (eVar 9) aNil)))) aNil)))) (aCons (eDead (fLst (aCons (eVar 6) (aCons (eVar 6) aNil)))) aNil))))) (sCons (sRet (eC (.bl false)))
    sNil) sNil)
    (sCons (sIf (tAnd (tVal (eOp opLt (eVar 3) (eC (.int 5)))) (tNot (tVal (eFn (m_law_is_by_all N) (aCons (eVar 3) (aCons (eVar 4) (aCons (eVar 9) aNil))))))) (sCons (sRet (eC (.bl false)))
    sNil) sNil)
    sNil)))))
    (sCons (sIf (tVal (eOp opNe (eCall bRepr (aCons (eVar 4) aNil)) (eVar 5))) (sCons (sRet (eC (.bl false)))
    sNil) sNil)
    sNil))))))))
    (sCons (sRet (eC (.bl true)))
    sNil)))))
def m_law (N : Nat) : Fn := mkFn 10 1 (b_law N)
end FT

set_option autoImplicit false
namespace FT
open PySem PySem.Spec PyProof.Rows L2 FM
/-! the text: derivations -/
structure NoB (mg : PySem.Str → Option Value) : Prop where
  abs_ : mg "abs" = none
  all_ : mg "all" = none
  any_ : mg "any" = none
  int_ : mg "int" = none
  len_ : mg "len" = none
  list_ : mg "list" = none
  max_ : mg "max" = none
  range_ : mg "range" = none
  repr_ : mg "repr" = none
  set_ : mg "set" = none
  sorted_ : mg "sorted" = none
  tuple_ : mg "tuple" = none
section
variable {P : Program} {w : World} {K : PySem.W.Frag} {mg : PySem.Str → Option Value} {base : Heap} {f : Addr} {fd : FuncData}
theorem sc_is_waiting : FnScope ["claims", "index", "left", "claim", "other"] ["claims", "index", "left"] (defScope (topS 1)) := ⟨rfl, rfl, rfl, by decide +kernel, rfl, by decide +kernel, by decide +kernel⟩
theorem ok_is_waiting (N : Nat) (F : L2.Fun K "is_waiting" "is_waiting" (topS 1) f fd) (B : NoB mg)  : FnG P w K mg base CX0 1 f fd ["claims", "index", "left"] (spOf K 3 (m_is_waiting N)) := by
  have z_all := B.all_
  have z_any := B.any_
  refine fn_M (mb := b_is_waiting N) F sc_is_waiting rfl rfl fun cdv E => ?_
  have c : CxG (bX P w K mg base 0 ["claims", "index", "left", "claim", "other"] "is_waiting" (defScope (topS 1)) f cdv E) K 0 := bX_cx sc_is_waiting
  exact (ms_cons (ms_ret (me_callB (cs_any c.toCxF) (fun _ => rfl) (fun _ => z_any) (by decide +kernel) (ma_cons (me_dead (mf_comp c.toCxF (mi_seq c.toCxF (me_var (j := 0) (fun _ => rfl) fun _ => .inl rfl)) (own := [("claim", 3)]) (fun _ => blkOk_by rfl) (mg_name (k := 3) c.blk.nd (fun _ => rfl) fun _ => .inl rfl) mts_nil (me_and (me_cmp (os_eq c.blk.toCxF) (me_ix c.blk.toCxF (me_var (j := 3) (fun _ => rfl) fun _ => .inl rfl) me_int) (me_var (j := 1) (fun _ => rfl) fun _ => .inr (.inl rfl))) (me_one (me_callB (cs_all c.blk.toCxF) (fun _ => rfl) (fun _ => z_all) (by decide +kernel) (ma_cons (me_dead (mf_comp c.blk.toCxF (mi_seq c.blk.toCxF (me_ix c.blk.toCxF (me_var (j := 3) (fun _ => rfl) fun _ => .inl rfl) me_int)) (own := [("other", 4)]) (fun _ => blkOk_by rfl) (mg_name (k := 4) c.blk.blk.nd (fun _ => rfl) fun _ => .inl rfl) mts_nil (me_cmp (os_in c.blk.blk.toCxF) (me_var (j := 4) (fun _ => rfl) fun _ => .inl rfl) (me_var (j := 2) (fun _ => rfl) fun _ => .inr (.inl rfl))))) ma_nil)))))) ma_nil)))
      ms_nil)
theorem sc_left_by : FnScope ["many", "claims", "kept", "left", "free", "index"] ["many", "claims", "kept"] (defScope (topS 2)) := ⟨rfl, rfl, rfl, by decide +kernel, rfl, by decide +kernel, by decide +kernel⟩
theorem ok_left_by (N : Nat) (F : L2.Fun K "left_by" "left_by" (topS 2) f fd) (B : NoB mg) (h0 : Has P w K mg base 1 "is_waiting" ["claims", "index", "left"] 3 (m_is_waiting N)) : FnG P w K mg base CX0 2 f fd ["many", "claims", "kept"] (spOf K 3 (m_left_by N)) := by
  have z_list := B.list_
  have z_range := B.range_
  obtain ⟨f0, d0, g0, k0, b0, F0⟩ := h0
  have F0 := F0.up (k := 1) (by decide)
  refine fn_M (mb := b_left_by N) F sc_left_by rfl rfl fun cdv E => ?_
  have c : CxG (bX P w K mg base 1 ["many", "claims", "kept", "left", "free", "index"] "left_by" (defScope (topS 2)) f cdv E) K 1 := bX_cx sc_left_by
  exact (ms_cons (ms_set (k := 3) c.nd (fun _ => rfl) (fun _ => .inr rfl) (me_live (mf_range c.toCxF (fun _ => rfl) (fun _ => z_list) (fun _ => rfl) (fun _ => z_range) (me_var (j := 0) (fun _ => rfl) fun _ => .inl rfl))))
      (ms_cons (ms_while (N := N) (fun _ => PassesOwn.never) (mt_val me_bl) (ms_cons (ms_setLcD (i := 4) c.toCxF (fun _ => rfl) (fun _ => rfl) (fun _ => rfl) (mi_seq c.toCxF (me_var (j := 3) (fun _ => rfl) fun _ => .inr (.inl rfl))) (own := [("index", 5)]) (fun _ => blkOk_by rfl) (mg_name (k := 5) c.blk.nd (fun _ => rfl) fun _ => .inl rfl) (mts_one (mw_mt (mw_and (mt_cmp (os_notIn c.blk.toCxF) (me_var (j := 5) (fun _ => rfl) fun _ => .inl rfl) (me_var (j := 2) (fun _ => rfl) fun _ => .inr (.inl rfl))) (mw_and1 (mt_not (mt_val (me_fn (fun _ => F0) c.blk (fun _ => rfl) (fun _ => g0) (fun _ => k0) (fun _ => b0) (fun _ => p0) (ma_cons (me_var (j := 1) (fun _ => rfl) fun _ => .inr (.inl rfl)) (ma_cons (me_var (j := 5) (fun _ => rfl) fun _ => .inl rfl) (ma_cons (me_var (j := 3) (fun _ => rfl) fun _ => .inr (.inl rfl)) ma_nil)))))))))) (me_var (j := 5) (fun _ => rfl) fun _ => .inl rfl))
      (ms_cons (ms_if (mt_cmp (os_eq c.toCxF) (me_var (j := 4) (fun _ => rfl) fun _ => .inl rfl) (me_dead (mf_lst ma_nil))) (ms_cons (ms_ret (me_var (j := 3) (fun _ => rfl) fun _ => .inr (.inl rfl)))
      ms_nil) ms_nil)
      (ms_cons (ms_expr (me_chg ch_remove PySem.F.slot_list_remove PySem.F.type_list_remove (me_var (j := 3) (fun _ => rfl) fun _ => .inr (.inl rfl)) (ma_cons (me_ix c.toCxF (me_var (j := 4) (fun _ => rfl) fun _ => .inl rfl) (me_neg me_int)) ma_nil) (c := c.toCxF)))
      ms_nil))))
      ms_nil))
theorem sc_can_all_hold : FnScope ["many", "claims"] ["many", "claims"] (defScope (topS 3)) := ⟨rfl, rfl, rfl, by decide +kernel, rfl, by decide +kernel, by decide +kernel⟩
theorem ok_can_all_hold (N : Nat) (F : L2.Fun K "can_all_hold" "can_all_hold" (topS 3) f fd) (B : NoB mg) (h0 : Has P w K mg base 2 "left_by" ["many", "claims", "kept"] 3 (m_left_by N)) : FnG P w K mg base CX0 3 f fd ["many", "claims"] (spOf K 2 (m_can_all_hold N)) := by
  obtain ⟨f0, d0, g0, k0, b0, F0⟩ := h0
  have F0 := F0.up (k := 2) (by decide)
  refine fn_M (mb := b_can_all_hold N) F sc_can_all_hold rfl rfl fun cdv E => ?_
  have c : CxG (bX P w K mg base 2 ["many", "claims"] "can_all_hold" (defScope (topS 3)) f cdv E) K 2 := bX_cx sc_can_all_hold
  exact (ms_cons (ms_ret (me_cmp (os_eq c.toCxF) (me_fn (fun _ => F0) c (fun _ => rfl) (fun _ => g0) (fun _ => k0) (fun _ => b0) (fun _ => p0) (ma_cons (me_var (j := 0) (fun _ => rfl) fun _ => .inl rfl) (ma_cons (me_var (j := 1) (fun _ => rfl) fun _ => .inl rfl) (ma_cons (me_tup ma_nil) ma_nil)))) (me_dead (mf_lst ma_nil))))
      ms_nil)
theorem sc_follows : FnScope ["many", "claims", "claim"] ["many", "claims", "claim"] (defScope (topS 4)) := ⟨rfl, rfl, rfl, by decide +kernel, rfl, by decide +kernel, by decide +kernel⟩
theorem ok_follows (N : Nat) (F : L2.Fun K "follows" "follows" (topS 4) f fd) (B : NoB mg) (h0 : Has P w K mg base 2 "left_by" ["many", "claims", "kept"] 3 (m_left_by N)) (h1 : Has P w K mg base 3 "can_all_hold" ["many", "claims"] 2 (m_can_all_hold N)) : FnG P w K mg base CX0 4 f fd ["many", "claims", "claim"] (spOf K 3 (m_follows N)) := by
  obtain ⟨f0, d0, g0, k0, b0, F0⟩ := h0
  have F0 := F0.up (k := 3) (by decide)
  obtain ⟨f1, d1, g1, k1, b1, F1⟩ := h1
  have F1 := F1.up (k := 3) (by decide)
  refine fn_M (mb := b_follows N) F sc_follows rfl rfl fun cdv E => ?_
  have c : CxG (bX P w K mg base 3 ["many", "claims", "claim"] "follows" (defScope (topS 4)) f cdv E) K 3 := bX_cx sc_follows
  exact (ms_cons (ms_ret (me_or (me_not (me_fn (fun _ => F1) c (fun _ => rfl) (fun _ => g1) (fun _ => k1) (fun _ => b1) (fun _ => p0) (ma_cons (me_var (j := 0) (fun _ => rfl) fun _ => .inl rfl) (ma_cons (me_var (j := 1) (fun _ => rfl) fun _ => .inl rfl) ma_nil)))) (me_one (me_cmp (os_in c.toCxF) (me_ix c.toCxF (me_var (j := 2) (fun _ => rfl) fun _ => .inl rfl) me_int) (me_fn (fun _ => F0) c (fun _ => rfl) (fun _ => g0) (fun _ => k0) (fun _ => b0) (fun _ => p0) (ma_cons (me_var (j := 0) (fun _ => rfl) fun _ => .inl rfl) (ma_cons (me_var (j := 1) (fun _ => rfl) fun _ => .inl rfl) (ma_cons (me_ix c.toCxF (me_var (j := 2) (fun _ => rfl) fun _ => .inl rfl) me_int) ma_nil))))))))
      ms_nil)
theorem sc_law_alike : FnScope ["_law_found", "_law_due"] ["_law_found", "_law_due"] (defScope (topS 10)) := ⟨rfl, rfl, rfl, by decide +kernel, rfl, by decide +kernel, by decide +kernel⟩
theorem ok_law_alike (N : Nat) (F : L2.Fun K "_law_alike" "_law_alike" (topS 10) f fd) (B : NoB mg)  : FnG P w K mg base CX0 1 f fd ["_law_found", "_law_due"] (spOf K 2 (m_law_alike N)) := by
  have z_repr := B.repr_
  refine fn_M (mb := b_law_alike N) F sc_law_alike rfl rfl fun cdv E => ?_
  have c : CxG (bX P w K mg base 0 ["_law_found", "_law_due"] "_law_alike" (defScope (topS 10)) f cdv E) K 0 := bX_cx sc_law_alike
  exact (ms_cons (ms_ret (me_and (me_cmp (os_eq c.toCxF) (me_var (j := 0) (fun _ => rfl) fun _ => .inl rfl) (me_var (j := 1) (fun _ => rfl) fun _ => .inl rfl)) (me_one (me_cmp (os_eq c.toCxF) (me_callB (cs_repr c) (fun _ => rfl) (fun _ => z_repr) (by decide +kernel) (ma_cons (me_var (j := 0) (fun _ => rfl) fun _ => .inl rfl) ma_nil)) (me_callB (cs_repr c) (fun _ => rfl) (fun _ => z_repr) (by decide +kernel) (ma_cons (me_var (j := 1) (fun _ => rfl) fun _ => .inl rfl) ma_nil))))))
      ms_nil)
theorem sc_law_in_order : FnScope ["_law_order", "_law_claim_here", "_law_index", "_law_lot", "_law_one_here"] ["_law_order", "_law_claim_here"] (defScope (topS 12)) := ⟨rfl, rfl, rfl, by decide +kernel, rfl, by decide +kernel, by decide +kernel⟩
theorem ok_law_in_order (N : Nat) (F : L2.Fun K "_law_in_order" "_law_in_order" (topS 12) f fd) (B : NoB mg)  : FnG P w K mg base CX0 1 f fd ["_law_order", "_law_claim_here"] (spOf K 2 (m_law_in_order N)) := by
  have z_max := B.max_
  refine fn_M (mb := b_law_in_order N) F sc_law_in_order rfl rfl fun cdv E => ?_
  have c : CxG (bX P w K mg base 0 ["_law_order", "_law_claim_here", "_law_index", "_law_lot", "_law_one_here"] "_law_in_order" (defScope (topS 12)) f cdv E) K 0 := bX_cx sc_law_in_order
  exact (ms_cons (ms_asg (me_var (j := 1) (fun _ => rfl) fun _ => .inl rfl) (mg_tup (n := 2) c.toCxF (mg_cons (mg_name (k := 2) c.nd (fun _ => rfl) fun _ => .inl rfl) (mg_cons (mg_name (k := 3) c.nd (fun _ => rfl) fun _ => .inl rfl) mg_nil))))
      (ms_cons (ms_ret (me_cmp os_lt (me_alt (me_idxL (me_var (j := 0) (fun _ => rfl) fun _ => .inr (.inl rfl)) (ma_cons (me_var (j := 2) (fun _ => rfl) fun _ => .inl rfl) ma_nil) (c := c.toCxF)) (me_idxT (me_var (j := 0) (fun _ => rfl) fun _ => .inr (.inl rfl)) (ma_cons (me_var (j := 2) (fun _ => rfl) fun _ => .inl rfl) ma_nil) (c := c.toCxF))) (me_callB (cs_max c.toCxF) (fun _ => rfl) (fun _ => z_max) (by decide +kernel) (ma_cons (me_dead (mf_comp c.toCxF (mi_seq c.toCxF (me_var (j := 3) (fun _ => rfl) fun _ => .inl rfl)) (own := [("_law_one_here", 4)]) (fun _ => blkOk_by rfl) (mg_name (k := 4) c.blk.nd (fun _ => rfl) fun _ => .inl rfl) mts_nil (me_alt (me_idxL (me_var (j := 0) (fun _ => rfl) fun _ => .inr (.inl rfl)) (ma_cons (me_var (j := 4) (fun _ => rfl) fun _ => .inl rfl) ma_nil) (c := c.blk.toCxF)) (me_idxT (me_var (j := 0) (fun _ => rfl) fun _ => .inr (.inl rfl)) (ma_cons (me_var (j := 4) (fun _ => rfl) fun _ => .inl rfl) ma_nil) (c := c.blk.toCxF))))) ma_nil))))
      ms_nil))
theorem sc_law_all_orders : FnScope ["_law_many", "_law_found", "_law_turn", "_law_longer", "_law_order", "_law_index"] ["_law_many"] (defScope (topS 15)) := ⟨rfl, rfl, rfl, by decide +kernel, rfl, by decide +kernel, by decide +kernel⟩
theorem ok_law_all_orders (N : Nat) (F : L2.Fun K "_law_all_orders" "_law_all_orders" (topS 15) f fd) (B : NoB mg)  : FnG P w K mg base CX0 1 f fd ["_law_many"] (spOf K 1 (m_law_all_orders N)) := by
  have z_range := B.range_
  refine fn_M (mb := b_law_all_orders N) F sc_law_all_orders rfl rfl fun cdv E => ?_
  have c : CxG (bX P w K mg base 0 ["_law_many", "_law_found", "_law_turn", "_law_longer", "_law_order", "_law_index"] "_law_all_orders" (defScope (topS 15)) f cdv E) K 0 := bX_cx sc_law_all_orders
  exact (ms_cons (ms_set (k := 1) c.nd (fun _ => rfl) (fun _ => .inl rfl) (me_dead (mf_lst (ma_cons (me_tup ma_nil) ma_nil))))
      (ms_cons (ms_for (fun _ => PassesOwn.never) c.toCxF (mi_range1 (fun _ => rfl) (fun _ => z_range) (me_var (j := 0) (fun _ => rfl) fun _ => .inl rfl)) (mg_name (k := 2) c.nd (fun _ => rfl) fun _ => .inl rfl) (ms_cons (ms_set (k := 3) c.nd (fun _ => rfl) (fun _ => .inl rfl) (me_live (mf_lst ma_nil)))
      (ms_cons (ms_for (fun _ => PassesOwn.never) c.toCxF (mi_seq c.toCxF (me_var (j := 1) (fun _ => rfl) fun _ => .inl rfl)) (mg_name (k := 4) c.nd (fun _ => rfl) fun _ => .inr rfl) (ms_cons (ms_expr (me_extF (me_var (j := 3) (fun _ => rfl) fun _ => .inl rfl) (mf_comp c.toCxF (mi_range1 (fun _ => rfl) (fun _ => z_range) (me_var (j := 0) (fun _ => rfl) fun _ => .inl rfl)) (own := [("_law_index", 5)]) (fun _ => blkOk_by rfl) (mg_name (k := 5) c.blk.nd (fun _ => rfl) fun _ => .inl rfl) (mts_one (mt_cmp (os_notIn c.blk.toCxF) (me_var (j := 5) (fun _ => rfl) fun _ => .inl rfl) (me_var (j := 4) (fun _ => rfl) fun _ => .inr (.inl rfl)))) (me_op (os_add c.blk.toCxF) (me_var (j := 4) (fun _ => rfl) fun _ => .inr (.inl rfl)) (me_tup (ma_cons (me_var (j := 5) (fun _ => rfl) fun _ => .inl rfl) ma_nil)))) (c := c.toCxF)))
      ms_nil))
      (ms_cons (ms_set (k := 1) c.nd (fun _ => rfl) (fun _ => .inl rfl) (me_var (j := 3) (fun _ => rfl) fun _ => .inl rfl))
      ms_nil))))
      (ms_cons (ms_ret (me_var (j := 1) (fun _ => rfl) fun _ => .inl rfl))
      ms_nil)))
theorem sc_law_is_by_all : FnScope ["_law_many", "_law_claims_here", "_law_claim_here", "_law_kept", "_law_against", "_law_order", "_law_one_here"] ["_law_many", "_law_claims_here", "_law_claim_here"] (defScope (topS 17)) := ⟨rfl, rfl, rfl, by decide +kernel, rfl, by decide +kernel, by decide +kernel⟩
theorem ok_law_is_by_all (N : Nat) (F : L2.Fun K "_law_is_by_all" "_law_is_by_all" (topS 17) f fd) (B : NoB mg) (h0 : Has P w K mg base 4 "follows" ["many", "claims", "claim"] 3 (m_follows N)) (h1 : Has P w K mg base 3 "can_all_hold" ["many", "claims"] 2 (m_can_all_hold N)) (h2 : Has P w K mg base 1 "_law_alike" ["_law_found", "_law_due"] 2 (m_law_alike N)) (h3 : Has P w K mg base 1 "_law_in_order" ["_law_order", "_law_claim_here"] 2 (m_law_in_order N)) (h4 : Has P w K mg base 1 "_law_all_orders" ["_law_many"] 1 (m_law_all_orders N)) : FnG P w K mg base CX0 5 f fd ["_law_many", "_law_claims_here", "_law_claim_here"] (spOf K 3 (m_law_is_by_all N)) := by
  obtain ⟨f0, d0, g0, k0, b0, F0⟩ := h0
  have F0 := F0.up (k := 4) (by decide)
  obtain ⟨f1, d1, g1, k1, b1, F1⟩ := h1
  have F1 := F1.up (k := 4) (by decide)
  obtain ⟨f2, d2, g2, k2, b2, F2⟩ := h2
  have F2 := F2.up (k := 4) (by decide)
  obtain ⟨f3, d3, g3, k3, b3, F3⟩ := h3
  have F3 := F3.up (k := 4) (by decide)
  obtain ⟨f4, d4, g4, k4, b4, F4⟩ := h4
  have F4 := F4.up (k := 4) (by decide)
  refine fn_M (mb := b_law_is_by_all N) F sc_law_is_by_all rfl rfl fun cdv E => ?_
  have c : CxG (bX P w K mg base 4 ["_law_many", "_law_claims_here", "_law_claim_here", "_law_kept", "_law_against", "_law_order", "_law_one_here"] "_law_is_by_all" (defScope (topS 17)) f cdv E) K 4 := bX_cx sc_law_is_by_all
  exact (ms_cons (ms_setLcD (i := 3) c.toCxF (fun _ => rfl) (fun _ => rfl) (fun _ => rfl) (mi_seq c.toCxF (me_fn (fun _ => F4) c (fun _ => rfl) (fun _ => g4) (fun _ => k4) (fun _ => b4) (fun _ => p0) (ma_cons (me_var (j := 0) (fun _ => rfl) fun _ => .inl rfl) ma_nil))) (own := [("_law_order", 5)]) (fun _ => blkOk_by rfl) (mg_name (k := 5) c.blk.nd (fun _ => rfl) fun _ => .inr rfl) (mts_one (mt_cmp (os_eq c.blk.toCxF) (me_dead (mf_comp c.blk.toCxF (mi_seq c.blk.toCxF (me_var (j := 1) (fun _ => rfl) fun _ => .inr (.inl rfl))) (own := [("_law_one_here", 6)]) (fun _ => blkOk_by rfl) (mg_name (k := 6) c.blk.blk.nd (fun _ => rfl) fun _ => .inl rfl) (mts_one (mt_not (mt_val (me_fn (fun _ => F3) c.blk.blk (fun _ => rfl) (fun _ => g3) (fun _ => k3) (fun _ => b3) (fun _ => p0) (ma_cons (me_var (j := 5) (fun _ => rfl) fun _ => .inr (.inl rfl)) (ma_cons (me_var (j := 6) (fun _ => rfl) fun _ => .inl rfl) ma_nil)))))) (me_var (j := 6) (fun _ => rfl) fun _ => .inl rfl))) (me_dead (mf_lst ma_nil)))) (me_var (j := 5) (fun _ => rfl) fun _ => .inr (.inl rfl)))
      (ms_cons (ms_setLcD (i := 4) c.toCxF (fun _ => rfl) (fun _ => rfl) (fun _ => rfl) (mi_seq c.toCxF (me_var (j := 3) (fun _ => rfl) fun _ => .inl rfl)) (own := [("_law_order", 5)]) (fun _ => blkOk_by rfl) (mg_name (k := 5) c.blk.nd (fun _ => rfl) fun _ => .inl rfl) (mts_one (mt_not (mt_val (me_fn (fun _ => F3) c.blk (fun _ => rfl) (fun _ => g3) (fun _ => k3) (fun _ => b3) (fun _ => p0) (ma_cons (me_var (j := 5) (fun _ => rfl) fun _ => .inl rfl) (ma_cons (me_var (j := 2) (fun _ => rfl) fun _ => .inr (.inl rfl)) ma_nil)))))) (me_var (j := 5) (fun _ => rfl) fun _ => .inl rfl))
      (ms_cons (ms_ret (me_fnL (fun _ => F2) c (fun _ => rfl) (fun _ => g2) (fun _ => k2) (fun _ => b2) (fun _ => p0) (ma_cons (me_dead (mf_lst (ma_cons (me_fn (fun _ => F1) c (fun _ => rfl) (fun _ => g1) (fun _ => k1) (fun _ => b1) (fun _ => p0) (ma_cons (me_var (j := 0) (fun _ => rfl) fun _ => .inl rfl) (ma_cons (me_var (j := 1) (fun _ => rfl) fun _ => .inr (.inl rfl)) ma_nil))) (ma_cons (me_fn (fun _ => F0) c (fun _ => rfl) (fun _ => g0) (fun _ => k0) (fun _ => b0) (fun _ => p0) (ma_cons (me_var (j := 0) (fun _ => rfl) fun _ => .inl rfl) (ma_cons (me_var (j := 1) (fun _ => rfl) fun _ => .inr (.inl rfl)) (ma_cons (me_var (j := 2) (fun _ => rfl) fun _ => .inr (.inl rfl)) ma_nil)))) ma_nil)))) (ma_cons (me_dead (mf_lst (ma_cons (me_cmp (os_ne c.toCxF) (me_var (j := 3) (fun _ => rfl) fun _ => .inl rfl) (me_dead (mf_lst ma_nil))) (ma_cons (me_cmp (os_eq c.toCxF) (me_var (j := 4) (fun _ => rfl) fun _ => .inl rfl) (me_dead (mf_lst ma_nil))) ma_nil)))) ma_nil))))
      ms_nil)))
theorem sc_law_claims_left : FnScope ["_law_many", "_law_claims_here", "_law_lot", "_law_left", "_law_barred", "_law_free", "_law_index", "_law_some", "_law_one_here"] ["_law_many", "_law_claims_here", "_law_lot"] (defScope (topS 13)) := ⟨rfl, rfl, rfl, by decide +kernel, rfl, by decide +kernel, by decide +kernel⟩
theorem ok_law_claims_left (N : Nat) (F : L2.Fun K "_law_claims_left" "_law_claims_left" (topS 13) f fd) (B : NoB mg)  : FnG P w K mg base CX0 1 f fd ["_law_many", "_law_claims_here", "_law_lot"] (spOf K 3 (m_law_claims_left N)) := by
  have z_list := B.list_
  have z_range := B.range_
  refine fn_M (mb := b_law_claims_left N) F sc_law_claims_left rfl rfl fun cdv E => ?_
  have c : CxG (bX P w K mg base 0 ["_law_many", "_law_claims_here", "_law_lot", "_law_left", "_law_barred", "_law_free", "_law_index", "_law_some", "_law_one_here"] "_law_claims_left" (defScope (topS 13)) f cdv E) K 0 := bX_cx sc_law_claims_left
  exact (ms_cons (ms_set (k := 3) c.nd (fun _ => rfl) (fun _ => .inr rfl) (me_dead (mf_range c.toCxF (fun _ => rfl) (fun _ => z_list) (fun _ => rfl) (fun _ => z_range) (me_var (j := 0) (fun _ => rfl) fun _ => .inl rfl))))
      (ms_cons (ms_while (N := N) (fun _ => PassesOwn.never) (mt_val me_bl) (ms_cons (ms_set (k := 4) c.nd (fun _ => rfl) (fun _ => .inr rfl) (me_dead (mf_comp c.toCxF (mi_seq c.toCxF (me_var (j := 1) (fun _ => rfl) fun _ => .inl rfl)) (own := [("_law_index", 6), ("_law_some", 7)]) (fun _ => blkOk_by rfl) (mg_tup (n := 2) c.blk.toCxF (mg_cons (mg_name (k := 6) c.blk.nd (fun _ => rfl) fun _ => .inl rfl) (mg_cons (mg_name (k := 7) c.blk.nd (fun _ => rfl) fun _ => .inl rfl) mg_nil))) (mts_one (mt_cmp (os_eq c.blk.toCxF) (me_dead (mf_comp c.blk.toCxF (mi_seq c.blk.toCxF (me_var (j := 7) (fun _ => rfl) fun _ => .inl rfl)) (own := [("_law_one_here", 8)]) (fun _ => blkOk_by rfl) (mg_name (k := 8) c.blk.blk.nd (fun _ => rfl) fun _ => .inl rfl) (mts_one (mt_cmp (os_notIn c.blk.blk.toCxF) (me_var (j := 8) (fun _ => rfl) fun _ => .inl rfl) (me_var (j := 3) (fun _ => rfl) fun _ => .inr (.inl rfl)))) (me_var (j := 8) (fun _ => rfl) fun _ => .inl rfl))) (me_dead (mf_lst ma_nil)))) (me_var (j := 6) (fun _ => rfl) fun _ => .inl rfl))))
      (ms_cons (ms_set (k := 5) c.nd (fun _ => rfl) (fun _ => .inr rfl) (me_dead (mf_comp c.toCxF (mi_seq c.toCxF (me_var (j := 3) (fun _ => rfl) fun _ => .inr (.inl rfl))) (own := [("_law_index", 6)]) (fun _ => blkOk_by rfl) (mg_name (k := 6) c.blk.nd (fun _ => rfl) fun _ => .inl rfl) (mts_one (mw_mt (mw_and (mt_cmp (os_notIn c.blk.toCxF) (me_var (j := 6) (fun _ => rfl) fun _ => .inl rfl) (me_var (j := 2) (fun _ => rfl) fun _ => .inr (.inl rfl))) (mw_and1 (mt_cmp (os_notIn c.blk.toCxF) (me_var (j := 6) (fun _ => rfl) fun _ => .inl rfl) (me_var (j := 4) (fun _ => rfl) fun _ => .inr (.inl rfl))))))) (me_var (j := 6) (fun _ => rfl) fun _ => .inl rfl))))
      (ms_cons (ms_if (mt_cmp (os_eq c.toCxF) (me_var (j := 5) (fun _ => rfl) fun _ => .inr (.inl rfl)) (me_dead (mf_lst ma_nil))) (ms_cons (ms_ret (me_var (j := 3) (fun _ => rfl) fun _ => .inr (.inl rfl)))
      ms_nil) ms_nil)
      (ms_cons (ms_set (k := 3) c.nd (fun _ => rfl) (fun _ => .inr rfl) (me_dead (mf_comp c.toCxF (mi_seq c.toCxF (me_var (j := 3) (fun _ => rfl) fun _ => .inr (.inl rfl))) (own := [("_law_index", 6)]) (fun _ => blkOk_by rfl) (mg_name (k := 6) c.blk.nd (fun _ => rfl) fun _ => .inl rfl) (mts_one (mt_cmp (os_ne c.blk.toCxF) (me_var (j := 6) (fun _ => rfl) fun _ => .inl rfl) (me_ix c.blk.toCxF (me_var (j := 5) (fun _ => rfl) fun _ => .inr (.inl rfl)) (me_neg me_int)))) (me_var (j := 6) (fun _ => rfl) fun _ => .inl rfl))))
      ms_nil)))))
      ms_nil))
theorem sc_law_follows : FnScope ["_law_many", "_law_claims_here", "_law_claim_here"] ["_law_many", "_law_claims_here", "_law_claim_here"] (defScope (topS 14)) := ⟨rfl, rfl, rfl, by decide +kernel, rfl, by decide +kernel, by decide +kernel⟩
theorem ok_law_follows (N : Nat) (F : L2.Fun K "_law_follows" "_law_follows" (topS 14) f fd) (B : NoB mg) (h0 : Has P w K mg base 1 "_law_claims_left" ["_law_many", "_law_claims_here", "_law_lot"] 3 (m_law_claims_left N)) : FnG P w K mg base CX0 2 f fd ["_law_many", "_law_claims_here", "_law_claim_here"] (spOf K 3 (m_law_follows N)) := by
  obtain ⟨f0, d0, g0, k0, b0, F0⟩ := h0
  have F0 := F0.up (k := 1) (by decide)
  refine fn_M (mb := b_law_follows N) F sc_law_follows rfl rfl fun cdv E => ?_
  have c : CxG (bX P w K mg base 1 ["_law_many", "_law_claims_here", "_law_claim_here"] "_law_follows" (defScope (topS 14)) f cdv E) K 1 := bX_cx sc_law_follows
  exact (ms_cons (ms_if (mt_cmp (os_ne c.toCxF) (me_fn (fun _ => F0) c (fun _ => rfl) (fun _ => g0) (fun _ => k0) (fun _ => b0) (fun _ => p0) (ma_cons (me_var (j := 0) (fun _ => rfl) fun _ => .inl rfl) (ma_cons (me_var (j := 1) (fun _ => rfl) fun _ => .inl rfl) (ma_cons (me_tup ma_nil) ma_nil)))) (me_dead (mf_lst ma_nil))) (ms_cons (ms_ret me_bl)
      ms_nil) ms_nil)
      (ms_cons (ms_ret (me_cmp (os_in c.toCxF) (me_ix c.toCxF (me_var (j := 2) (fun _ => rfl) fun _ => .inl rfl) me_int) (me_fn (fun _ => F0) c (fun _ => rfl) (fun _ => g0) (fun _ => k0) (fun _ => b0) (fun _ => p0) (ma_cons (me_var (j := 0) (fun _ => rfl) fun _ => .inl rfl) (ma_cons (me_var (j := 1) (fun _ => rfl) fun _ => .inl rfl) (ma_cons (me_ix c.toCxF (me_var (j := 2) (fun _ => rfl) fun _ => .inl rfl) me_int) ma_nil))))))
      ms_nil))
theorem sc_law_take : FnScope ["_law_bag_here", "_law_many", "_law_cell", "_law_stirred", "_law_value", "_law_begin", "_law_second"] ["_law_bag_here", "_law_many"] (defScope (topS 7)) := ⟨rfl, rfl, rfl, by decide +kernel, rfl, by decide +kernel, by decide +kernel⟩
theorem ok_law_take (N : Nat) (F : L2.Fun K "_law_take" "_law_take" (topS 7) f fd) (B : NoB mg)  : FnG P w K mg base CX0 1 f fd ["_law_bag_here", "_law_many"] (spOf K 2 (m_law_take N)) := by
  have z_int := B.int_
  refine fn_M (mb := b_law_take N) F sc_law_take rfl rfl fun cdv E => ?_
  have c : CxG (bX P w K mg base 0 ["_law_bag_here", "_law_many", "_law_cell", "_law_stirred", "_law_value", "_law_begin", "_law_second"] "_law_take" (defScope (topS 7)) f cdv E) K 0 := bX_cx sc_law_take
  exact (ms_cons (ms_if (mt_cmp (os_eq c.toCxF) (me_ix c.toCxF (me_var (j := 0) (fun _ => rfl) fun _ => .inl rfl) me_int) me_int) (ms_cons (ms_set (k := 2) c.nd (fun _ => rfl) (fun _ => .inl rfl) (me_ix c.toCxF (me_dead (mf_add (me_dead (mf_sl c.toCxF (me_ix c.toCxF (me_var (j := 0) (fun _ => rfl) fun _ => .inl rfl) me_int) (mo_some (me_ix c.toCxF (me_var (j := 0) (fun _ => rfl) fun _ => .inl rfl) me_int)) mo_none)) (me_dead (mf_lst (ma_cons me_int ma_nil))))) me_int))
      (ms_cons (ms_augSub is_add c.toCxF (me_var (j := 0) (fun _ => rfl) fun _ => .inl rfl) me_int me_int)
      (ms_cons (ms_if (mt_cmp os_ge (me_var (j := 2) (fun _ => rfl) fun _ => .inl rfl) (me_op os_pow me_int me_int)) (ms_cons (ms_sub (me_var (j := 2) (fun _ => rfl) fun _ => .inl rfl) (me_var (j := 0) (fun _ => rfl) fun _ => .inl rfl) me_int)
      ms_nil) ms_nil)
      (ms_cons (ms_set (k := 3) c.nd (fun _ => rfl) (fun _ => .inl rfl) (me_op (os_add c.toCxF) (me_op (os_add c.toCxF) (me_op os_mul (me_ix c.toCxF (me_var (j := 0) (fun _ => rfl) fun _ => .inl rfl) me_int) me_int) (me_op os_mod (me_callTy (cs_int) (fun _ => rfl) (fun _ => z_int) (by decide +kernel) (ma_cons (me_var (j := 2) (fun _ => rfl) fun _ => .inl rfl) ma_nil)) me_int)) (me_op os_mul me_int (me_ix c.toCxF (me_var (j := 0) (fun _ => rfl) fun _ => .inl rfl) me_int))))
      (ms_cons (ms_sub (me_op os_mod (me_callTy (cs_int) (fun _ => rfl) (fun _ => z_int) (by decide +kernel) (ma_cons (me_var (j := 3) (fun _ => rfl) fun _ => .inl rfl) ma_nil)) me_int) (me_var (j := 0) (fun _ => rfl) fun _ => .inl rfl) me_int)
      ms_nil))))) ms_nil)
      (ms_cons (ms_if (mt_cmp os_gt (me_ix c.toCxF (me_var (j := 0) (fun _ => rfl) fun _ => .inl rfl) me_int) me_int) (ms_cons (ms_set (k := 4) c.nd (fun _ => rfl) (fun _ => .inl rfl) (me_op os_mod (me_callTy (cs_int) (fun _ => rfl) (fun _ => z_int) (by decide +kernel) (ma_cons (me_ix c.toCxF (me_var (j := 0) (fun _ => rfl) fun _ => .inl rfl) me_int) ma_nil)) (me_var (j := 1) (fun _ => rfl) fun _ => .inl rfl)))
      (ms_cons (ms_sub (me_op os_div (me_callTy (cs_int) (fun _ => rfl) (fun _ => z_int) (by decide +kernel) (ma_cons (me_ix c.toCxF (me_var (j := 0) (fun _ => rfl) fun _ => .inl rfl) me_int) ma_nil)) (me_var (j := 1) (fun _ => rfl) fun _ => .inl rfl)) (me_var (j := 0) (fun _ => rfl) fun _ => .inl rfl) me_int)
      (ms_cons (ms_ret (me_var (j := 4) (fun _ => rfl) fun _ => .inl rfl))
      ms_nil))) ms_nil)
      (ms_cons (ms_set (k := 5) c.nd (fun _ => rfl) (fun _ => .inl rfl) (me_op os_mod (me_callTy (cs_int) (fun _ => rfl) (fun _ => z_int) (by decide +kernel) (ma_cons (me_op os_mul (me_op (os_add c.toCxF) (me_ix c.toCxF (me_var (j := 0) (fun _ => rfl) fun _ => .inl rfl) me_int) me_int) me_int) ma_nil)) me_int))
      (ms_cons (ms_set (k := 6) c.nd (fun _ => rfl) (fun _ => .inl rfl) (me_op os_mod (me_callTy (cs_int) (fun _ => rfl) (fun _ => z_int) (by decide +kernel) (ma_cons (me_op os_mul (me_op os_mod (me_callTy (cs_int) (fun _ => rfl) (fun _ => z_int) (by decide +kernel) (ma_cons (me_op os_mul (me_var (j := 5) (fun _ => rfl) fun _ => .inl rfl) (me_var (j := 5) (fun _ => rfl) fun _ => .inl rfl)) ma_nil)) me_int) me_int) ma_nil)) me_int))
      (ms_cons (ms_ret (me_op os_mod (me_callTy (cs_int) (fun _ => rfl) (fun _ => z_int) (by decide +kernel) (ma_cons (me_op os_div (me_var (j := 6) (fun _ => rfl) fun _ => .inl rfl) me_int) ma_nil)) (me_var (j := 1) (fun _ => rfl) fun _ => .inl rfl)))
      ms_nil)))))
theorem sc_law_one : FnScope ["_law_bag_here", "_law_things"] ["_law_bag_here", "_law_things"] (defScope (topS 8)) := ⟨rfl, rfl, rfl, by decide +kernel, rfl, by decide +kernel, by decide +kernel⟩
theorem ok_law_one (N : Nat) (F : L2.Fun K "_law_one" "_law_one" (topS 8) f fd) (B : NoB mg) (h0 : Has P w K mg base 1 "_law_take" ["_law_bag_here", "_law_many"] 2 (m_law_take N)) : FnG P w K mg base CX0 2 f fd ["_law_bag_here", "_law_things"] (spOf K 2 (m_law_one N)) := by
  have z_len := B.len_
  obtain ⟨f0, d0, g0, k0, b0, F0⟩ := h0
  have F0 := F0.up (k := 1) (by decide)
  refine fn_M (mb := b_law_one N) F sc_law_one rfl rfl fun cdv E => ?_
  have c : CxG (bX P w K mg base 1 ["_law_bag_here", "_law_things"] "_law_one" (defScope (topS 8)) f cdv E) K 1 := bX_cx sc_law_one
  exact (ms_cons (ms_ret (me_ix c.toCxF (me_var (j := 1) (fun _ => rfl) fun _ => .inl rfl) (me_fn (fun _ => F0) c (fun _ => rfl) (fun _ => g0) (fun _ => k0) (fun _ => b0) (fun _ => p0) (ma_cons (me_var (j := 0) (fun _ => rfl) fun _ => .inl rfl) (ma_cons (me_callB (cs_len c.toCxF) (fun _ => rfl) (fun _ => z_len) (by decide +kernel) (ma_cons (me_var (j := 1) (fun _ => rfl) fun _ => .inl rfl) ma_nil)) ma_nil)))))
      ms_nil)
theorem sc_law_mixed : FnScope ["_law_bag_here", "_law_things", "_law_found", "_law_thing"] ["_law_bag_here", "_law_things"] (defScope (topS 9)) := ⟨rfl, rfl, rfl, by decide +kernel, rfl, by decide +kernel, by decide +kernel⟩
theorem ok_law_mixed (N : Nat) (F : L2.Fun K "_law_mixed" "_law_mixed" (topS 9) f fd) (B : NoB mg) (h0 : Has P w K mg base 1 "_law_take" ["_law_bag_here", "_law_many"] 2 (m_law_take N)) : FnG P w K mg base CX0 2 f fd ["_law_bag_here", "_law_things"] (spOf K 2 (m_law_mixed N)) := by
  have z_len := B.len_
  obtain ⟨f0, d0, g0, k0, b0, F0⟩ := h0
  have F0 := F0.up (k := 1) (by decide)
  refine fn_M (mb := b_law_mixed N) F sc_law_mixed rfl rfl fun cdv E => ?_
  have c : CxG (bX P w K mg base 1 ["_law_bag_here", "_law_things", "_law_found", "_law_thing"] "_law_mixed" (defScope (topS 9)) f cdv E) K 1 := bX_cx sc_law_mixed
  exact (ms_cons (ms_set (k := 2) c.nd (fun _ => rfl) (fun _ => .inl rfl) (me_live (mf_lst ma_nil)))
      (ms_cons (ms_for (fun _ => PassesOwn.never) c.toCxF (mi_seq c.toCxF (me_var (j := 1) (fun _ => rfl) fun _ => .inl rfl)) (mg_name (k := 3) c.nd (fun _ => rfl) fun _ => .inl rfl) (ms_cons (ms_expr (me_chg ch_insert PySem.F.slot_list_insert PySem.F.type_list_insert (me_var (j := 2) (fun _ => rfl) fun _ => .inl rfl) (ma_cons (me_fn (fun _ => F0) c (fun _ => rfl) (fun _ => g0) (fun _ => k0) (fun _ => b0) (fun _ => p0) (ma_cons (me_var (j := 0) (fun _ => rfl) fun _ => .inl rfl) (ma_cons (me_op (os_add c.toCxF) (me_callB (cs_len c.toCxF) (fun _ => rfl) (fun _ => z_len) (by decide +kernel) (ma_cons (me_var (j := 2) (fun _ => rfl) fun _ => .inl rfl) ma_nil)) me_int) ma_nil))) (ma_cons (me_var (j := 3) (fun _ => rfl) fun _ => .inl rfl) ma_nil)) (c := c.toCxF)))
      ms_nil))
      (ms_cons (ms_ret (me_var (j := 2) (fun _ => rfl) fun _ => .inl rfl))
      ms_nil)))
theorem sc_law_claim : FnScope ["_law_bag_here", "_law_many", "_law_index", "_law_others", "_law_lot", "_law_one_here"] ["_law_bag_here", "_law_many"] (defScope (topS 11)) := ⟨rfl, rfl, rfl, by decide +kernel, rfl, by decide +kernel, by decide +kernel⟩
theorem ok_law_claim (N : Nat) (F : L2.Fun K "_law_claim" "_law_claim" (topS 11) f fd) (B : NoB mg) (h0 : Has P w K mg base 2 "_law_mixed" ["_law_bag_here", "_law_things"] 2 (m_law_mixed N)) (h1 : Has P w K mg base 2 "_law_one" ["_law_bag_here", "_law_things"] 2 (m_law_one N)) (h2 : Has P w K mg base 1 "_law_take" ["_law_bag_here", "_law_many"] 2 (m_law_take N)) : FnG P w K mg base CX0 3 f fd ["_law_bag_here", "_law_many"] (spOf K 2 (m_law_claim N)) := by
  have z_range := B.range_
  have z_sorted := B.sorted_
  have z_tuple := B.tuple_
  obtain ⟨f0, d0, g0, k0, b0, F0⟩ := h0
  have F0 := F0.up (k := 2) (by decide)
  obtain ⟨f1, d1, g1, k1, b1, F1⟩ := h1
  have F1 := F1.up (k := 2) (by decide)
  obtain ⟨f2, d2, g2, k2, b2, F2⟩ := h2
  have F2 := F2.up (k := 2) (by decide)
  refine fn_M (mb := b_law_claim N) F sc_law_claim rfl rfl fun cdv E => ?_
  have c : CxG (bX P w K mg base 2 ["_law_bag_here", "_law_many", "_law_index", "_law_others", "_law_lot", "_law_one_here"] "_law_claim" (defScope (topS 11)) f cdv E) K 2 := bX_cx sc_law_claim
  exact (ms_cons (ms_set (k := 2) c.nd (fun _ => rfl) (fun _ => .inr rfl) (me_fn (fun _ => F2) c (fun _ => rfl) (fun _ => g2) (fun _ => k2) (fun _ => b2) (fun _ => p0) (ma_cons (me_var (j := 0) (fun _ => rfl) fun _ => .inl rfl) (ma_cons (me_var (j := 1) (fun _ => rfl) fun _ => .inl rfl) ma_nil))))
      (ms_cons (ms_setLcD (i := 3) c.toCxF (fun _ => rfl) (fun _ => rfl) (fun _ => rfl) (mi_range1 (fun _ => rfl) (fun _ => z_range) (me_var (j := 1) (fun _ => rfl) fun _ => .inl rfl)) (own := [("_law_one_here", 5)]) (fun _ => blkOk_by rfl) (mg_name (k := 5) c.blk.nd (fun _ => rfl) fun _ => .inl rfl) (mts_one (mt_cmp (os_ne c.blk.toCxF) (me_var (j := 5) (fun _ => rfl) fun _ => .inl rfl) (me_var (j := 2) (fun _ => rfl) fun _ => .inr (.inl rfl)))) (me_var (j := 5) (fun _ => rfl) fun _ => .inl rfl))
      (ms_cons (ms_set (k := 4) c.nd (fun _ => rfl) (fun _ => .inl rfl) (me_dead (mf_sl c.toCxF (me_fn (fun _ => F0) c (fun _ => rfl) (fun _ => g0) (fun _ => k0) (fun _ => b0) (fun _ => p0) (ma_cons (me_var (j := 0) (fun _ => rfl) fun _ => .inl rfl) (ma_cons (me_var (j := 3) (fun _ => rfl) fun _ => .inl rfl) ma_nil))) mo_none (mo_some (me_fn (fun _ => F1) c (fun _ => rfl) (fun _ => g1) (fun _ => k1) (fun _ => b1) (fun _ => p0) (ma_cons (me_var (j := 0) (fun _ => rfl) fun _ => .inl rfl) (ma_cons (me_dead (mf_lst (ma_cons me_int (ma_cons me_int (ma_cons me_int (ma_cons me_int (ma_cons me_int ma_nil))))))) ma_nil)))))))
      (ms_cons (ms_ret (me_tup (ma_cons (me_var (j := 2) (fun _ => rfl) fun _ => .inr (.inl rfl)) (ma_cons (me_tupleF c.toCxF (fun _ => rfl) (fun _ => z_tuple) (mf_sortedI c.toCxF (fun _ => rfl) (fun _ => z_sorted) (me_var (j := 4) (fun _ => rfl) fun _ => .inl rfl))) ma_nil))))
      ms_nil))))
theorem sc_law_claims : FnScope ["_law_bag_here", "_law_many", "_law_found", "_law_order", "_law_turn", "_law_claim_here"] ["_law_bag_here", "_law_many"] (defScope (topS 16)) := ⟨rfl, rfl, rfl, by decide +kernel, rfl, by decide +kernel, by decide +kernel⟩
theorem ok_law_claims (N : Nat) (F : L2.Fun K "_law_claims" "_law_claims" (topS 16) f fd) (B : NoB mg) (h0 : Has P w K mg base 2 "_law_one" ["_law_bag_here", "_law_things"] 2 (m_law_one N)) (h1 : Has P w K mg base 1 "_law_take" ["_law_bag_here", "_law_many"] 2 (m_law_take N)) (h2 : Has P w K mg base 1 "_law_in_order" ["_law_order", "_law_claim_here"] 2 (m_law_in_order N)) (h3 : Has P w K mg base 3 "_law_claim" ["_law_bag_here", "_law_many"] 2 (m_law_claim N)) (h4 : Has P w K mg base 2 "_law_mixed" ["_law_bag_here", "_law_things"] 2 (m_law_mixed N)) : FnG P w K mg base CX0 4 f fd ["_law_bag_here", "_law_many"] (spOf K 2 (m_law_claims N)) := by
  have z_list := B.list_
  have z_range := B.range_
  obtain ⟨f0, d0, g0, k0, b0, F0⟩ := h0
  have F0 := F0.up (k := 3) (by decide)
  obtain ⟨f1, d1, g1, k1, b1, F1⟩ := h1
  have F1 := F1.up (k := 3) (by decide)
  obtain ⟨f2, d2, g2, k2, b2, F2⟩ := h2
  have F2 := F2.up (k := 3) (by decide)
  obtain ⟨f3, d3, g3, k3, b3, F3⟩ := h3
  have F3 := F3.up (k := 3) (by decide)
  obtain ⟨f4, d4, g4, k4, b4, F4⟩ := h4
  have F4 := F4.up (k := 3) (by decide)
  refine fn_M (mb := b_law_claims N) F sc_law_claims rfl rfl fun cdv E => ?_
  have c : CxG (bX P w K mg base 3 ["_law_bag_here", "_law_many", "_law_found", "_law_order", "_law_turn", "_law_claim_here"] "_law_claims" (defScope (topS 16)) f cdv E) K 3 := bX_cx sc_law_claims
  exact (ms_cons (ms_par (k := 2) (l := 3) c.calm c.nd (fun _ => rfl) (fun _ => rfl) (by decide) (fun _ => rfl) (fun _ => rfl) (me_live (mf_lst ma_nil)) (me_fn (fun _ => F4) c (fun _ => rfl) (fun _ => g4) (fun _ => k4) (fun _ => b4) (fun _ => p0) (ma_cons (me_var (j := 0) (fun _ => rfl) fun _ => .inl rfl) (ma_cons (me_dead (mf_range c.toCxF (fun _ => rfl) (fun _ => z_list) (fun _ => rfl) (fun _ => z_range) (me_var (j := 1) (fun _ => rfl) fun _ => .inl rfl))) ma_nil))) (fun _ => rfl))
      (ms_cons (ms_for (fun _ => PassesOwn.never) c.toCxF (mi_range1 (fun _ => rfl) (fun _ => z_range) (me_if (mt_cmp os_gt (me_var (j := 1) (fun _ => rfl) fun _ => .inl rfl) me_int) (me_fn (fun _ => F0) c (fun _ => rfl) (fun _ => g0) (fun _ => k0) (fun _ => b0) (fun _ => p0) (ma_cons (me_var (j := 0) (fun _ => rfl) fun _ => .inl rfl) (ma_cons (me_dead (mf_lst (ma_cons me_int (ma_cons me_int (ma_cons me_int (ma_cons me_int (ma_cons me_int (ma_cons me_int ma_nil)))))))) ma_nil))) me_int)) (mg_name (k := 4) c.nd (fun _ => rfl) fun _ => .inl rfl) (ms_cons (ms_set (k := 5) c.nd (fun _ => rfl) (fun _ => .inl rfl) (me_fn (fun _ => F3) c (fun _ => rfl) (fun _ => g3) (fun _ => k3) (fun _ => b3) (fun _ => p0) (ma_cons (me_var (j := 0) (fun _ => rfl) fun _ => .inl rfl) (ma_cons (me_var (j := 1) (fun _ => rfl) fun _ => .inl rfl) ma_nil))))
      (ms_cons (ms_if (mw_mt (mw_or (mt_val (me_fn (fun _ => F2) c (fun _ => rfl) (fun _ => g2) (fun _ => k2) (fun _ => b2) (fun _ => p0) (ma_cons (me_var (j := 3) (fun _ => rfl) fun _ => .inl rfl) (ma_cons (me_var (j := 5) (fun _ => rfl) fun _ => .inl rfl) ma_nil)))) (mw_or1 (mt_cmp (os_eq c.toCxF) (me_fn (fun _ => F1) c (fun _ => rfl) (fun _ => g1) (fun _ => k1) (fun _ => b1) (fun _ => p0) (ma_cons (me_var (j := 0) (fun _ => rfl) fun _ => .inl rfl) (ma_cons me_int ma_nil))) me_int)))) (ms_cons (ms_expr (me_chg ch_append PySem.F.slot_list_append PySem.F.type_list_append (me_var (j := 2) (fun _ => rfl) fun _ => .inl rfl) (ma_cons (me_var (j := 5) (fun _ => rfl) fun _ => .inl rfl) ma_nil) (c := c.toCxF)))
      ms_nil) ms_nil)
      ms_nil)))
      (ms_cons (ms_ret (me_var (j := 2) (fun _ => rfl) fun _ => .inl rfl))
      ms_nil)))
theorem sc_law_are_many_right : FnScope ["_law_bag_here", "_law_many", "_law_order", "_law_claims_here", "_law_turn", "_law_claim_here", "_law_ring", "_law_index", "_law_lot"] ["_law_bag_here"] (defScope (topS 18)) := ⟨rfl, rfl, rfl, by decide +kernel, rfl, by decide +kernel, by decide +kernel⟩
theorem ok_law_are_many_right (N : Nat) (F : L2.Fun K "_law_are_many_right" "_law_are_many_right" (topS 18) f fd) (B : NoB mg) (h0 : Has P w K mg base 4 "follows" ["many", "claims", "claim"] 3 (m_follows N)) (h1 : Has P w K mg base 3 "can_all_hold" ["many", "claims"] 2 (m_can_all_hold N)) (h2 : Has P w K mg base 1 "_law_alike" ["_law_found", "_law_due"] 2 (m_law_alike N)) (h3 : Has P w K mg base 2 "_law_follows" ["_law_many", "_law_claims_here", "_law_claim_here"] 3 (m_law_follows N)) (h4 : Has P w K mg base 3 "_law_claim" ["_law_bag_here", "_law_many"] 2 (m_law_claim N)) (h5 : Has P w K mg base 1 "_law_in_order" ["_law_order", "_law_claim_here"] 2 (m_law_in_order N)) (h6 : Has P w K mg base 2 "_law_one" ["_law_bag_here", "_law_things"] 2 (m_law_one N)) (h7 : Has P w K mg base 2 "_law_mixed" ["_law_bag_here", "_law_things"] 2 (m_law_mixed N)) : FnG P w K mg base CX0 5 f fd ["_law_bag_here"] (spOf K 1 (m_law_are_many_right N)) := by
  have z_list := B.list_
  have z_range := B.range_
  have z_set := B.set_
  have z_sorted := B.sorted_
  have z_tuple := B.tuple_
  obtain ⟨f0, d0, g0, k0, b0, F0⟩ := h0
  have F0 := F0.up (k := 4) (by decide)
  obtain ⟨f1, d1, g1, k1, b1, F1⟩ := h1
  have F1 := F1.up (k := 4) (by decide)
  obtain ⟨f2, d2, g2, k2, b2, F2⟩ := h2
  have F2 := F2.up (k := 4) (by decide)
  obtain ⟨f3, d3, g3, k3, b3, F3⟩ := h3
  have F3 := F3.up (k := 4) (by decide)
  obtain ⟨f4, d4, g4, k4, b4, F4⟩ := h4
  have F4 := F4.up (k := 4) (by decide)
  obtain ⟨f5, d5, g5, k5, b5, F5⟩ := h5
  have F5 := F5.up (k := 4) (by decide)
  obtain ⟨f6, d6, g6, k6, b6, F6⟩ := h6
  have F6 := F6.up (k := 4) (by decide)
  obtain ⟨f7, d7, g7, k7, b7, F7⟩ := h7
  have F7 := F7.up (k := 4) (by decide)
  refine fn_M (mb := b_law_are_many_right N) F sc_law_are_many_right rfl rfl fun cdv E => ?_
  have c : CxG (bX P w K mg base 4 ["_law_bag_here", "_law_many", "_law_order", "_law_claims_here", "_law_turn", "_law_claim_here", "_law_ring", "_law_index", "_law_lot"] "_law_are_many_right" (defScope (topS 18)) f cdv E) K 4 := bX_cx sc_law_are_many_right
  exact (ms_cons (ms_set (k := 1) c.nd (fun _ => rfl) (fun _ => .inl rfl) (me_fn (fun _ => F6) c (fun _ => rfl) (fun _ => g6) (fun _ => k6) (fun _ => b6) (fun _ => p0) (ma_cons (me_var (j := 0) (fun _ => rfl) fun _ => .inl rfl) (ma_cons (me_dead (mf_lst (ma_cons me_int (ma_cons me_int (ma_cons me_int ma_nil))))) ma_nil))))
      (ms_cons (ms_asg (me_tup (ma_cons (me_fn (fun _ => F7) c (fun _ => rfl) (fun _ => g7) (fun _ => k7) (fun _ => b7) (fun _ => p0) (ma_cons (me_var (j := 0) (fun _ => rfl) fun _ => .inl rfl) (ma_cons (me_dead (mf_range c.toCxF (fun _ => rfl) (fun _ => z_list) (fun _ => rfl) (fun _ => z_range) (me_var (j := 1) (fun _ => rfl) fun _ => .inl rfl))) ma_nil))) (ma_cons (me_live (mf_lst ma_nil)) ma_nil))) (mg_tup (n := 2) c.toCxF (mg_cons (mg_name (k := 2) c.nd (fun _ => rfl) fun _ => .inr rfl) (mg_cons (mg_name (k := 3) c.nd (fun _ => rfl) fun _ => .inl rfl) mg_nil))))
      (ms_cons (ms_for (fun _ => PassesOwn.never) c.toCxF (mi_range1 (fun _ => rfl) (fun _ => z_range) (me_fn (fun _ => F6) c (fun _ => rfl) (fun _ => g6) (fun _ => k6) (fun _ => b6) (fun _ => p0) (ma_cons (me_var (j := 0) (fun _ => rfl) fun _ => .inl rfl) (ma_cons (me_dead (mf_lst (ma_cons me_int (ma_cons me_int (ma_cons me_int ma_nil))))) ma_nil)))) (mg_name (k := 4) c.nd (fun _ => rfl) fun _ => .inl rfl) (ms_cons (ms_set (k := 5) c.nd (fun _ => rfl) (fun _ => .inl rfl) (me_fn (fun _ => F4) c (fun _ => rfl) (fun _ => g4) (fun _ => k4) (fun _ => b4) (fun _ => p0) (ma_cons (me_var (j := 0) (fun _ => rfl) fun _ => .inl rfl) (ma_cons (me_var (j := 1) (fun _ => rfl) fun _ => .inl rfl) ma_nil))))
      (ms_cons (ms_expr (me_chg ch_append PySem.F.slot_list_append PySem.F.type_list_append (me_var (j := 3) (fun _ => rfl) fun _ => .inl rfl) (ma_cons (me_if (mt_val (me_fn (fun _ => F5) c (fun _ => rfl) (fun _ => g5) (fun _ => k5) (fun _ => b5) (fun _ => p0) (ma_cons (me_var (j := 2) (fun _ => rfl) fun _ => .inr (.inl rfl)) (ma_cons (me_var (j := 5) (fun _ => rfl) fun _ => .inl rfl) ma_nil)))) (me_var (j := 5) (fun _ => rfl) fun _ => .inl rfl) (me_tup (ma_cons (me_ix c.toCxF (me_ix c.toCxF (me_var (j := 5) (fun _ => rfl) fun _ => .inl rfl) me_int) me_int) (ma_cons (me_op (os_add c.toCxF) (me_tup (ma_cons (me_ix c.toCxF (me_var (j := 5) (fun _ => rfl) fun _ => .inl rfl) me_int) ma_nil)) (me_slT c.toCxF (me_ix c.toCxF (me_var (j := 5) (fun _ => rfl) fun _ => .inl rfl) me_int) (mo_some me_int) mo_none)) ma_nil)))) ma_nil) (c := c.toCxF)))
      ms_nil)))
      (ms_cons (ms_setLcL (i := 3) c.toCxF (fun _ => rfl) (fun _ => rfl) (fun _ => rfl) (mi_seq c.toCxF (me_var (j := 3) (fun _ => rfl) fun _ => .inl rfl)) (own := [("_law_index", 7), ("_law_lot", 8)]) (fun _ => blkOk_by rfl) (mg_tup (n := 2) c.blk.toCxF (mg_cons (mg_name (k := 7) c.blk.nd (fun _ => rfl) fun _ => .inl rfl) (mg_cons (mg_name (k := 8) c.blk.nd (fun _ => rfl) fun _ => .inl rfl) mg_nil))) mts_nil (me_tup (ma_cons (me_var (j := 7) (fun _ => rfl) fun _ => .inl rfl) (ma_cons (me_tupleF c.blk.toCxF (fun _ => rfl) (fun _ => z_tuple) (mf_sortSetT c.blk.toCxF (fun _ => rfl) (fun _ => z_sorted) (fun _ => rfl) (fun _ => z_set) (me_var (j := 8) (fun _ => rfl) fun _ => .inl rfl))) ma_nil))))
      (ms_cons (ms_setLcL (i := 3) c.toCxF (fun _ => rfl) (fun _ => rfl) (fun _ => rfl) (mi_seq c.toCxF (me_var (j := 3) (fun _ => rfl) fun _ => .inl rfl)) (own := [("_law_claim_here", 5)]) (fun _ => blkOk_by rfl) (mg_name (k := 5) c.blk.nd (fun _ => rfl) fun _ => .inl rfl) (mts_one (mt_val (me_fn (fun _ => F5) c.blk (fun _ => rfl) (fun _ => g5) (fun _ => k5) (fun _ => b5) (fun _ => p0) (ma_cons (me_var (j := 2) (fun _ => rfl) fun _ => .inr (.inl rfl)) (ma_cons (me_var (j := 5) (fun _ => rfl) fun _ => .inl rfl) ma_nil))))) (me_var (j := 5) (fun _ => rfl) fun _ => .inl rfl))
      (ms_cons (ms_if (mt_not (mt_val (me_fn (fun _ => F2) c (fun _ => rfl) (fun _ => g2) (fun _ => k2) (fun _ => b2) (fun _ => p0) (ma_cons (me_fn (fun _ => F1) c (fun _ => rfl) (fun _ => g1) (fun _ => k1) (fun _ => b1) (fun _ => p0) (ma_cons (me_var (j := 1) (fun _ => rfl) fun _ => .inl rfl) (ma_cons (me_var (j := 3) (fun _ => rfl) fun _ => .inl rfl) ma_nil))) (ma_cons me_bl ma_nil))))) (ms_cons (ms_ret me_bl)
      ms_nil) ms_nil)
      (ms_cons (ms_for (fun _ => PassesOwn.never) c.toCxF (mi_range1 (fun _ => rfl) (fun _ => z_range) me_int) (mg_name (k := 4) c.nd (fun _ => rfl) fun _ => .inl rfl) (ms_cons (ms_set (k := 5) c.nd (fun _ => rfl) (fun _ => .inl rfl) (me_fn (fun _ => F4) c (fun _ => rfl) (fun _ => g4) (fun _ => k4) (fun _ => b4) (fun _ => p0) (ma_cons (me_var (j := 0) (fun _ => rfl) fun _ => .inl rfl) (ma_cons (me_var (j := 1) (fun _ => rfl) fun _ => .inl rfl) ma_nil))))
      (ms_cons (ms_if (mt_not (mt_val (me_fn (fun _ => F2) c (fun _ => rfl) (fun _ => g2) (fun _ => k2) (fun _ => b2) (fun _ => p0) (ma_cons (me_fn (fun _ => F0) c (fun _ => rfl) (fun _ => g0) (fun _ => k0) (fun _ => b0) (fun _ => p0) (ma_cons (me_var (j := 1) (fun _ => rfl) fun _ => .inl rfl) (ma_cons (me_var (j := 3) (fun _ => rfl) fun _ => .inl rfl) (ma_cons (me_var (j := 5) (fun _ => rfl) fun _ => .inl rfl) ma_nil)))) (ma_cons (me_fn (fun _ => F3) c (fun _ => rfl) (fun _ => g3) (fun _ => k3) (fun _ => b3) (fun _ => p0) (ma_cons (me_var (j := 1) (fun _ => rfl) fun _ => .inl rfl) (ma_cons (me_var (j := 3) (fun _ => rfl) fun _ => .inl rfl) (ma_cons (me_var (j := 5) (fun _ => rfl) fun _ => .inl rfl) ma_nil)))) ma_nil))))) (ms_cons (ms_ret me_bl)
      ms_nil) ms_nil)
      ms_nil)))
      (ms_cons (ms_set (k := 6) c.nd (fun _ => rfl) (fun _ => .inl rfl) (me_dead (mf_add (me_var (j := 3) (fun _ => rfl) fun _ => .inl rfl) (me_dead (mf_lst (ma_cons (me_tup (ma_cons (me_ix c.toCxF (me_var (j := 2) (fun _ => rfl) fun _ => .inr (.inl rfl)) me_int) (ma_cons (me_tup (ma_cons (me_ix c.toCxF (me_var (j := 2) (fun _ => rfl) fun _ => .inr (.inl rfl)) (me_neg me_int)) ma_nil)) ma_nil))) (ma_cons (me_tup (ma_cons (me_ix c.toCxF (me_var (j := 2) (fun _ => rfl) fun _ => .inr (.inl rfl)) (me_neg me_int)) (ma_cons (me_tup (ma_cons (me_ix c.toCxF (me_var (j := 2) (fun _ => rfl) fun _ => .inr (.inl rfl)) me_int) ma_nil)) ma_nil))) ma_nil)))))))
      (ms_cons (ms_ret (me_fnL (fun _ => F2) c (fun _ => rfl) (fun _ => g2) (fun _ => k2) (fun _ => b2) (fun _ => p0) (ma_cons (me_dead (mf_lst (ma_cons (me_fn (fun _ => F1) c (fun _ => rfl) (fun _ => g1) (fun _ => k1) (fun _ => b1) (fun _ => p0) (ma_cons (me_var (j := 1) (fun _ => rfl) fun _ => .inl rfl) (ma_cons (me_var (j := 6) (fun _ => rfl) fun _ => .inl rfl) ma_nil))) (ma_cons (me_fn (fun _ => F0) c (fun _ => rfl) (fun _ => g0) (fun _ => k0) (fun _ => b0) (fun _ => p0) (ma_cons (me_var (j := 1) (fun _ => rfl) fun _ => .inl rfl) (ma_cons (me_var (j := 6) (fun _ => rfl) fun _ => .inl rfl) (ma_cons (me_tup (ma_cons (me_ix c.toCxF (me_var (j := 2) (fun _ => rfl) fun _ => .inr (.inl rfl)) me_int) (ma_cons (me_tup (ma_cons (me_ix c.toCxF (me_var (j := 2) (fun _ => rfl) fun _ => .inr (.inl rfl)) me_int) ma_nil)) ma_nil))) ma_nil)))) ma_nil)))) (ma_cons (me_dead (mf_lst (ma_cons me_bl (ma_cons me_bl ma_nil)))) ma_nil))))
      ms_nil)))))))))
theorem sc_law_bag : FnScope ["_law_script", "_law_cell"] ["_law_script"] (defScope (topS 6)) := ⟨rfl, rfl, rfl, by decide +kernel, rfl, by decide +kernel, by decide +kernel⟩
theorem ok_law_bag (N : Nat) (F : L2.Fun K "_law_bag" "_law_bag" (topS 6) f fd) (B : NoB mg)  : FnG P w K mg base CX0 1 f fd ["_law_script"] (spOf K 1 (m_law_bag N)) := by
  have z_abs := B.abs_
  refine fn_M (mb := b_law_bag N) F sc_law_bag rfl rfl fun cdv E => ?_
  have c : CxG (bX P w K mg base 0 ["_law_script", "_law_cell"] "_law_bag" (defScope (topS 6)) f cdv E) K 0 := bX_cx sc_law_bag
  exact (ms_cons (ms_ret (me_live (mf_lst (ma_cons me_int (ma_cons me_int (ma_cons me_int (ma_cons (me_dead (mf_comp c.toCxF (mi_seq c.toCxF (me_dead (mf_sl c.toCxF (me_var (j := 0) (fun _ => rfl) fun _ => .inl rfl) mo_none (mo_some me_int)))) (own := [("_law_cell", 1)]) (fun _ => blkOk_by rfl) (mg_name (k := 1) c.blk.nd (fun _ => rfl) fun _ => .inl rfl) mts_nil (me_callB (cs_abs) (fun _ => rfl) (fun _ => z_abs) (by decide +kernel) (ma_cons (me_var (j := 1) (fun _ => rfl) fun _ => .inl rfl) ma_nil)))) ma_nil)))))))
      ms_nil)
theorem sc_law : FnScope ["_law_script", "_law_bag_here", "_law_turn", "_law_many", "_law_claims_here", "_law_said", "_law_due", "_law_others", "_law_again", "_law_claim_here"] ["_law_script"] (defScope (topS 19)) := ⟨rfl, rfl, rfl, by decide +kernel, rfl, by decide +kernel, by decide +kernel⟩
theorem ok_law (N : Nat) (F : L2.Fun K "law" "law" (topS 19) f fd) (B : NoB mg) (h0 : Has P w K mg base 5 "_law_is_by_all" ["_law_many", "_law_claims_here", "_law_claim_here"] 3 (m_law_is_by_all N)) (h1 : Has P w K mg base 4 "follows" ["many", "claims", "claim"] 3 (m_follows N)) (h2 : Has P w K mg base 1 "_law_alike" ["_law_found", "_law_due"] 2 (m_law_alike N)) (h3 : Has P w K mg base 2 "_law_follows" ["_law_many", "_law_claims_here", "_law_claim_here"] 3 (m_law_follows N)) (h4 : Has P w K mg base 1 "_law_take" ["_law_bag_here", "_law_many"] 2 (m_law_take N)) (h5 : Has P w K mg base 2 "_law_one" ["_law_bag_here", "_law_things"] 2 (m_law_one N)) (h6 : Has P w K mg base 3 "_law_claim" ["_law_bag_here", "_law_many"] 2 (m_law_claim N)) (h7 : Has P w K mg base 3 "can_all_hold" ["many", "claims"] 2 (m_can_all_hold N)) (h8 : Has P w K mg base 2 "_law_mixed" ["_law_bag_here", "_law_things"] 2 (m_law_mixed N)) (h9 : Has P w K mg base 1 "_law_claims_left" ["_law_many", "_law_claims_here", "_law_lot"] 3 (m_law_claims_left N)) (h10 : Has P w K mg base 4 "_law_claims" ["_law_bag_here", "_law_many"] 2 (m_law_claims N)) (h11 : Has P w K mg base 5 "_law_are_many_right" ["_law_bag_here"] 1 (m_law_are_many_right N)) (h12 : Has P w K mg base 1 "_law_bag" ["_law_script"] 1 (m_law_bag N)) : FnG P w K mg base CX0 6 f fd ["_law_script"] (spOf K 1 (m_law N)) := by
  have z_range := B.range_
  have z_repr := B.repr_
  have z_tuple := B.tuple_
  obtain ⟨f0, d0, g0, k0, b0, F0⟩ := h0
  have F0 := F0.up (k := 5) (by decide)
  obtain ⟨f1, d1, g1, k1, b1, F1⟩ := h1
  have F1 := F1.up (k := 5) (by decide)
  obtain ⟨f2, d2, g2, k2, b2, F2⟩ := h2
  have F2 := F2.up (k := 5) (by decide)
  obtain ⟨f3, d3, g3, k3, b3, F3⟩ := h3
  have F3 := F3.up (k := 5) (by decide)
  obtain ⟨f4, d4, g4, k4, b4, F4⟩ := h4
  have F4 := F4.up (k := 5) (by decide)
  obtain ⟨f5, d5, g5, k5, b5, F5⟩ := h5
  have F5 := F5.up (k := 5) (by decide)
  obtain ⟨f6, d6, g6, k6, b6, F6⟩ := h6
  have F6 := F6.up (k := 5) (by decide)
  obtain ⟨f7, d7, g7, k7, b7, F7⟩ := h7
  have F7 := F7.up (k := 5) (by decide)
  obtain ⟨f8, d8, g8, k8, b8, F8⟩ := h8
  have F8 := F8.up (k := 5) (by decide)
  obtain ⟨f9, d9, g9, k9, b9, F9⟩ := h9
  have F9 := F9.up (k := 5) (by decide)
  obtain ⟨f10, d10, g10, k10, b10, F10⟩ := h10
  have F10 := F10.up (k := 5) (by decide)
  obtain ⟨f11, d11, g11, k11, b11, F11⟩ := h11
  have F11 := F11.up (k := 5) (by decide)
  obtain ⟨f12, d12, g12, k12, b12, F12⟩ := h12
  have F12 := F12.up (k := 5) (by decide)
  refine fn_M (mb := b_law N) F sc_law rfl rfl fun cdv E => ?_
  have c : CxG (bX P w K mg base 5 ["_law_script", "_law_bag_here", "_law_turn", "_law_many", "_law_claims_here", "_law_said", "_law_due", "_law_others", "_law_again", "_law_claim_here"] "law" (defScope (topS 19)) f cdv E) K 5 := bX_cx sc_law
  exact (ms_cons (ms_set (k := 1) c.nd (fun _ => rfl) (fun _ => .inl rfl) (me_fnL (fun _ => F12) c (fun _ => rfl) (fun _ => g12) (fun _ => k12) (fun _ => b12) (fun _ => p0) (ma_cons (me_var (j := 0) (fun _ => rfl) fun _ => .inl rfl) ma_nil)))
      (ms_cons (ms_if (mw_mt (mw_and (mt_cmp (os_eq c.toCxF) (me_fn (fun _ => F4) c (fun _ => rfl) (fun _ => g4) (fun _ => k4) (fun _ => b4) (fun _ => p0) (ma_cons (me_var (j := 1) (fun _ => rfl) fun _ => .inl rfl) (ma_cons me_int ma_nil))) me_int) (mw_and1 (mt_not (mt_val (me_fn (fun _ => F11) c (fun _ => rfl) (fun _ => g11) (fun _ => k11) (fun _ => b11) (fun _ => p0) (ma_cons (me_var (j := 1) (fun _ => rfl) fun _ => .inl rfl) ma_nil))))))) (ms_cons (ms_ret me_bl)
      ms_nil) ms_nil)
      (ms_cons (ms_if (mt_not (mt_val (me_fn (fun _ => F2) c (fun _ => rfl) (fun _ => g2) (fun _ => k2) (fun _ => b2) (fun _ => p0) (ma_cons (me_dead (mf_lst (ma_cons (me_fn (fun _ => F7) c (fun _ => rfl) (fun _ => g7) (fun _ => k7) (fun _ => b7) (fun _ => p0) (ma_cons me_int (ma_cons (me_dead (mf_lst ma_nil)) ma_nil))) (ma_cons (me_fn (fun _ => F7) c (fun _ => rfl) (fun _ => g7) (fun _ => k7) (fun _ => b7) (fun _ => p0) (ma_cons me_int (ma_cons (me_tup ma_nil) ma_nil))) (ma_cons (me_fn (fun _ => F7) c (fun _ => rfl) (fun _ => g7) (fun _ => k7) (fun _ => b7) (fun _ => p0) (ma_cons me_int (ma_cons (me_tup ma_nil) ma_nil))) ma_nil))))) (ma_cons (me_dead (mf_mul (me_dead (mf_lst (ma_cons me_bl ma_nil))) me_int)) ma_nil))))) (ms_cons (ms_ret me_bl)
      ms_nil) ms_nil)
      (ms_cons (ms_for (fun _ => PassesOwn.never) c.toCxF (mi_range1 (fun _ => rfl) (fun _ => z_range) me_int) (mg_name (k := 2) c.nd (fun _ => rfl) fun _ => .inl rfl) (ms_cons (ms_set (k := 3) c.nd (fun _ => rfl) (fun _ => .inl rfl) (me_fn (fun _ => F5) c (fun _ => rfl) (fun _ => g5) (fun _ => k5) (fun _ => b5) (fun _ => p0) (ma_cons (me_var (j := 1) (fun _ => rfl) fun _ => .inl rfl) (ma_cons (me_dead (mf_lst (ma_cons me_int (ma_cons me_int (ma_cons me_int (ma_cons me_int (ma_cons me_int ma_nil))))))) ma_nil))))
      (ms_cons (ms_set (k := 4) c.nd (fun _ => rfl) (fun _ => .inl rfl) (me_fn (fun _ => F10) c (fun _ => rfl) (fun _ => g10) (fun _ => k10) (fun _ => b10) (fun _ => p0) (ma_cons (me_var (j := 1) (fun _ => rfl) fun _ => .inl rfl) (ma_cons (me_var (j := 3) (fun _ => rfl) fun _ => .inl rfl) ma_nil))))
      (ms_cons (ms_par (k := 5) (l := 6) c.calm c.nd (fun _ => rfl) (fun _ => rfl) (by decide) (fun _ => rfl) (fun _ => rfl) (me_callB (cs_repr c) (fun _ => rfl) (fun _ => z_repr) (by decide +kernel) (ma_cons (me_var (j := 4) (fun _ => rfl) fun _ => .inl rfl) ma_nil)) (me_cmp (os_eq c.toCxF) (me_fn (fun _ => F9) c (fun _ => rfl) (fun _ => g9) (fun _ => k9) (fun _ => b9) (fun _ => p0) (ma_cons (me_var (j := 3) (fun _ => rfl) fun _ => .inl rfl) (ma_cons (me_var (j := 4) (fun _ => rfl) fun _ => .inl rfl) (ma_cons (me_tup ma_nil) ma_nil)))) (me_dead (mf_lst ma_nil))) (fun _ => rfl))
      (ms_cons (ms_set (k := 7) c.nd (fun _ => rfl) (fun _ => .inl rfl) (me_callTy (cs_tuple c.toCxF) (fun _ => rfl) (fun _ => z_tuple) (by decide +kernel) (ma_cons (me_fn (fun _ => F8) c (fun _ => rfl) (fun _ => g8) (fun _ => k8) (fun _ => b8) (fun _ => p0) (ma_cons (me_var (j := 1) (fun _ => rfl) fun _ => .inl rfl) (ma_cons (me_dead (mf_add (me_var (j := 4) (fun _ => rfl) fun _ => .inl rfl) (me_dead (mf_sl c.toCxF (me_var (j := 4) (fun _ => rfl) fun _ => .inl rfl) mo_none (mo_some me_int))))) ma_nil))) ma_nil)))
      (ms_cons (ms_if (mt_not (mt_val (me_fn (fun _ => F2) c (fun _ => rfl) (fun _ => g2) (fun _ => k2) (fun _ => b2) (fun _ => p0) (ma_cons (me_dead (mf_lst (ma_cons (me_fn (fun _ => F7) c (fun _ => rfl) (fun _ => g7) (fun _ => k7) (fun _ => b7) (fun _ => p0) (ma_cons (me_var (j := 3) (fun _ => rfl) fun _ => .inl rfl) (ma_cons (me_var (j := 4) (fun _ => rfl) fun _ => .inl rfl) ma_nil))) (ma_cons (me_fn (fun _ => F7) c (fun _ => rfl) (fun _ => g7) (fun _ => k7) (fun _ => b7) (fun _ => p0) (ma_cons (me_var (j := 3) (fun _ => rfl) fun _ => .inl rfl) (ma_cons (me_var (j := 7) (fun _ => rfl) fun _ => .inl rfl) ma_nil))) ma_nil)))) (ma_cons (me_dead (mf_lst (ma_cons (me_var (j := 6) (fun _ => rfl) fun _ => .inl rfl) (ma_cons (me_var (j := 6) (fun _ => rfl) fun _ => .inl rfl) ma_nil)))) ma_nil))))) (ms_cons (ms_ret me_bl)
      ms_nil) ms_nil)
      (ms_cons (ms_for (fun _ => PassesOwn.never) c.toCxF (mi_range1 (fun _ => rfl) (fun _ => z_range) me_int) (mg_name (k := 8) c.nd (fun _ => rfl) fun _ => .inl rfl) (ms_cons (ms_set (k := 9) c.nd (fun _ => rfl) (fun _ => .inl rfl) (me_if (mw_mt (mw_and (mt_cmp (os_ne c.toCxF) (me_var (j := 4) (fun _ => rfl) fun _ => .inl rfl) (me_dead (mf_lst ma_nil))) (mw_and1 (mt_cmp (os_eq c.toCxF) (me_fn (fun _ => F4) c (fun _ => rfl) (fun _ => g4) (fun _ => k4) (fun _ => b4) (fun _ => p0) (ma_cons (me_var (j := 1) (fun _ => rfl) fun _ => .inl rfl) (ma_cons me_int ma_nil))) me_int)))) (me_fn (fun _ => F5) c (fun _ => rfl) (fun _ => g5) (fun _ => k5) (fun _ => b5) (fun _ => p0) (ma_cons (me_var (j := 1) (fun _ => rfl) fun _ => .inl rfl) (ma_cons (me_var (j := 4) (fun _ => rfl) fun _ => .inl rfl) ma_nil))) (me_fn (fun _ => F6) c (fun _ => rfl) (fun _ => g6) (fun _ => k6) (fun _ => b6) (fun _ => p0) (ma_cons (me_var (j := 1) (fun _ => rfl) fun _ => .inl rfl) (ma_cons (me_var (j := 3) (fun _ => rfl) fun _ => .inl rfl) ma_nil)))))
      (ms_cons (ms_set (k := 6) c.nd (fun _ => rfl) (fun _ => .inl rfl) (me_fn (fun _ => F3) c (fun _ => rfl) (fun _ => g3) (fun _ => k3) (fun _ => b3) (fun _ => p0) (ma_cons (me_var (j := 3) (fun _ => rfl) fun _ => .inl rfl) (ma_cons (me_var (j := 4) (fun _ => rfl) fun _ => .inl rfl) (ma_cons (me_var (j := 9) (fun _ => rfl) fun _ => .inl rfl) ma_nil)))))
      (ms_cons (ms_if (mt_not (mt_val (me_fn (fun _ => F2) c (fun _ => rfl) (fun _ => g2) (fun _ => k2) (fun _ => b2) (fun _ => p0) (ma_cons (me_dead (mf_lst (ma_cons (me_fn (fun _ => F1) c (fun _ => rfl) (fun _ => g1) (fun _ => k1) (fun _ => b1) (fun _ => p0) (ma_cons (me_var (j := 3) (fun _ => rfl) fun _ => .inl rfl) (ma_cons (me_var (j := 4) (fun _ => rfl) fun _ => .inl rfl) (ma_cons (me_var (j := 9) (fun _ => rfl) fun _ => .inl rfl) ma_nil)))) (ma_cons (me_fn (fun _ => F1) c (fun _ => rfl) (fun _ => g1) (fun _ => k1) (fun _ => b1) (fun _ => p0) (ma_cons (me_var (j := 3) (fun _ => rfl) fun _ => .inl rfl) (ma_cons (me_var (j := 7) (fun _ => rfl) fun _ => .inl rfl) (ma_cons (me_var (j := 9) (fun _ => rfl) fun _ => .inl rfl) ma_nil)))) ma_nil)))) (ma_cons (me_dead (mf_lst (ma_cons (me_var (j := 6) (fun _ => rfl) fun _ => .inl rfl) (ma_cons (me_var (j := 6) (fun _ => rfl) fun _ => .inl rfl) ma_nil)))) ma_nil))))) (ms_cons (ms_ret me_bl)
      ms_nil) ms_nil)
      (ms_cons (ms_if (mw_mt (mw_and (mt_cmp os_lt (me_var (j := 3) (fun _ => rfl) fun _ => .inl rfl) me_int) (mw_and1 (mt_not (mt_val (me_fn (fun _ => F0) c (fun _ => rfl) (fun _ => g0) (fun _ => k0) (fun _ => b0) (fun _ => p0) (ma_cons (me_var (j := 3) (fun _ => rfl) fun _ => .inl rfl) (ma_cons (me_var (j := 4) (fun _ => rfl) fun _ => .inl rfl) (ma_cons (me_var (j := 9) (fun _ => rfl) fun _ => .inl rfl) ma_nil))))))))) (ms_cons (ms_ret me_bl)
      ms_nil) ms_nil)
      ms_nil)))))
      (ms_cons (ms_if (mt_cmp (os_ne c.toCxF) (me_callB (cs_repr c) (fun _ => rfl) (fun _ => z_repr) (by decide +kernel) (ma_cons (me_var (j := 4) (fun _ => rfl) fun _ => .inl rfl) ma_nil)) (me_var (j := 5) (fun _ => rfl) fun _ => .inl rfl)) (ms_cons (ms_ret me_bl)
      ms_nil) ms_nil)
      ms_nil))))))))
      (ms_cons (ms_ret me_bl)
      ms_nil)))))
end
/-! all defs -/
theorem all_mk {P : Program} {w : World} {K : PySem.W.Frag} {h : Heap} {mg : PySem.Str → Option Value} {fa : Addr} (X : K.In h) (G : h.Ns mainGlobals mg) (hfa : mg "law" = some (.ref fa))
    {o_is_waiting kV_is_waiting dc_is_waiting pm_is_waiting cd_is_waiting ct_is_waiting : Value} {od_is_waiting an_is_waiting : Option Addr} {sl_is_waiting : Array (Option Value)} {f_is_waiting : Addr}
    (a_is_waiting : PySem.W.nsIn K mainGlobals "is_waiting" = some (some (.ref f_is_waiting)))
    (l_is_waiting : K.lookup f_is_waiting = some ⟨o_is_waiting, od_is_waiting, .func (PySem.W.fnOf "is_waiting" "is_waiting" (defArgs (topS 1)) (defBody (topS 1)) (defScope (topS 1)) .none kV_is_waiting dc_is_waiting pm_is_waiting an_is_waiting cd_is_waiting ct_is_waiting), sl_is_waiting⟩)
    (c_is_waiting : PySem.W.codeIn K cd_is_waiting "is_waiting" = true)
    (k_is_waiting : PySem.W.keepIn K (.ref f_is_waiting) = true)
    {o_left_by kV_left_by dc_left_by pm_left_by cd_left_by ct_left_by : Value} {od_left_by an_left_by : Option Addr} {sl_left_by : Array (Option Value)} {f_left_by : Addr}
    (a_left_by : PySem.W.nsIn K mainGlobals "left_by" = some (some (.ref f_left_by)))
    (l_left_by : K.lookup f_left_by = some ⟨o_left_by, od_left_by, .func (PySem.W.fnOf "left_by" "left_by" (defArgs (topS 2)) (defBody (topS 2)) (defScope (topS 2)) .none kV_left_by dc_left_by pm_left_by an_left_by cd_left_by ct_left_by), sl_left_by⟩)
    (c_left_by : PySem.W.codeIn K cd_left_by "left_by" = true)
    (k_left_by : PySem.W.keepIn K (.ref f_left_by) = true)
    {o_can_all_hold kV_can_all_hold dc_can_all_hold pm_can_all_hold cd_can_all_hold ct_can_all_hold : Value} {od_can_all_hold an_can_all_hold : Option Addr} {sl_can_all_hold : Array (Option Value)} {f_can_all_hold : Addr}
    (a_can_all_hold : PySem.W.nsIn K mainGlobals "can_all_hold" = some (some (.ref f_can_all_hold)))
    (l_can_all_hold : K.lookup f_can_all_hold = some ⟨o_can_all_hold, od_can_all_hold, .func (PySem.W.fnOf "can_all_hold" "can_all_hold" (defArgs (topS 3)) (defBody (topS 3)) (defScope (topS 3)) .none kV_can_all_hold dc_can_all_hold pm_can_all_hold an_can_all_hold cd_can_all_hold ct_can_all_hold), sl_can_all_hold⟩)
    (c_can_all_hold : PySem.W.codeIn K cd_can_all_hold "can_all_hold" = true)
    (k_can_all_hold : PySem.W.keepIn K (.ref f_can_all_hold) = true)
    {o_follows kV_follows dc_follows pm_follows cd_follows ct_follows : Value} {od_follows an_follows : Option Addr} {sl_follows : Array (Option Value)} {f_follows : Addr}
    (a_follows : PySem.W.nsIn K mainGlobals "follows" = some (some (.ref f_follows)))
    (l_follows : K.lookup f_follows = some ⟨o_follows, od_follows, .func (PySem.W.fnOf "follows" "follows" (defArgs (topS 4)) (defBody (topS 4)) (defScope (topS 4)) .none kV_follows dc_follows pm_follows an_follows cd_follows ct_follows), sl_follows⟩)
    (c_follows : PySem.W.codeIn K cd_follows "follows" = true)
    (k_follows : PySem.W.keepIn K (.ref f_follows) = true)
    {o_law_alike kV_law_alike dc_law_alike pm_law_alike cd_law_alike ct_law_alike : Value} {od_law_alike an_law_alike : Option Addr} {sl_law_alike : Array (Option Value)} {f_law_alike : Addr}
    (a_law_alike : PySem.W.nsIn K mainGlobals "_law_alike" = some (some (.ref f_law_alike)))
    (l_law_alike : K.lookup f_law_alike = some ⟨o_law_alike, od_law_alike, .func (PySem.W.fnOf "_law_alike" "_law_alike" (defArgs (topS 10)) (defBody (topS 10)) (defScope (topS 10)) .none kV_law_alike dc_law_alike pm_law_alike an_law_alike cd_law_alike ct_law_alike), sl_law_alike⟩)
    (c_law_alike : PySem.W.codeIn K cd_law_alike "_law_alike" = true)
    (k_law_alike : PySem.W.keepIn K (.ref f_law_alike) = true)
    {o_law_in_order kV_law_in_order dc_law_in_order pm_law_in_order cd_law_in_order ct_law_in_order : Value} {od_law_in_order an_law_in_order : Option Addr} {sl_law_in_order : Array (Option Value)} {f_law_in_order : Addr}
    (a_law_in_order : PySem.W.nsIn K mainGlobals "_law_in_order" = some (some (.ref f_law_in_order)))
    (l_law_in_order : K.lookup f_law_in_order = some ⟨o_law_in_order, od_law_in_order, .func (PySem.W.fnOf "_law_in_order" "_law_in_order" (defArgs (topS 12)) (defBody (topS 12)) (defScope (topS 12)) .none kV_law_in_order dc_law_in_order pm_law_in_order an_law_in_order cd_law_in_order ct_law_in_order), sl_law_in_order⟩)
    (c_law_in_order : PySem.W.codeIn K cd_law_in_order "_law_in_order" = true)
    (k_law_in_order : PySem.W.keepIn K (.ref f_law_in_order) = true)
    {o_law_all_orders kV_law_all_orders dc_law_all_orders pm_law_all_orders cd_law_all_orders ct_law_all_orders : Value} {od_law_all_orders an_law_all_orders : Option Addr} {sl_law_all_orders : Array (Option Value)} {f_law_all_orders : Addr}
    (a_law_all_orders : PySem.W.nsIn K mainGlobals "_law_all_orders" = some (some (.ref f_law_all_orders)))
    (l_law_all_orders : K.lookup f_law_all_orders = some ⟨o_law_all_orders, od_law_all_orders, .func (PySem.W.fnOf "_law_all_orders" "_law_all_orders" (defArgs (topS 15)) (defBody (topS 15)) (defScope (topS 15)) .none kV_law_all_orders dc_law_all_orders pm_law_all_orders an_law_all_orders cd_law_all_orders ct_law_all_orders), sl_law_all_orders⟩)
    (c_law_all_orders : PySem.W.codeIn K cd_law_all_orders "_law_all_orders" = true)
    (k_law_all_orders : PySem.W.keepIn K (.ref f_law_all_orders) = true)
    {o_law_is_by_all kV_law_is_by_all dc_law_is_by_all pm_law_is_by_all cd_law_is_by_all ct_law_is_by_all : Value} {od_law_is_by_all an_law_is_by_all : Option Addr} {sl_law_is_by_all : Array (Option Value)} {f_law_is_by_all : Addr}
    (a_law_is_by_all : PySem.W.nsIn K mainGlobals "_law_is_by_all" = some (some (.ref f_law_is_by_all)))
    (l_law_is_by_all : K.lookup f_law_is_by_all = some ⟨o_law_is_by_all, od_law_is_by_all, .func (PySem.W.fnOf "_law_is_by_all" "_law_is_by_all" (defArgs (topS 17)) (defBody (topS 17)) (defScope (topS 17)) .none kV_law_is_by_all dc_law_is_by_all pm_law_is_by_all an_law_is_by_all cd_law_is_by_all ct_law_is_by_all), sl_law_is_by_all⟩)
    (c_law_is_by_all : PySem.W.codeIn K cd_law_is_by_all "_law_is_by_all" = true)
    (k_law_is_by_all : PySem.W.keepIn K (.ref f_law_is_by_all) = true)
    {o_law_claims_left kV_law_claims_left dc_law_claims_left pm_law_claims_left cd_law_claims_left ct_law_claims_left : Value} {od_law_claims_left an_law_claims_left : Option Addr} {sl_law_claims_left : Array (Option Value)} {f_law_claims_left : Addr}
    (a_law_claims_left : PySem.W.nsIn K mainGlobals "_law_claims_left" = some (some (.ref f_law_claims_left)))
    (l_law_claims_left : K.lookup f_law_claims_left = some ⟨o_law_claims_left, od_law_claims_left, .func (PySem.W.fnOf "_law_claims_left" "_law_claims_left" (defArgs (topS 13)) (defBody (topS 13)) (defScope (topS 13)) .none kV_law_claims_left dc_law_claims_left pm_law_claims_left an_law_claims_left cd_law_claims_left ct_law_claims_left), sl_law_claims_left⟩)
    (c_law_claims_left : PySem.W.codeIn K cd_law_claims_left "_law_claims_left" = true)
    (k_law_claims_left : PySem.W.keepIn K (.ref f_law_claims_left) = true)
    {o_law_follows kV_law_follows dc_law_follows pm_law_follows cd_law_follows ct_law_follows : Value} {od_law_follows an_law_follows : Option Addr} {sl_law_follows : Array (Option Value)} {f_law_follows : Addr}
    (a_law_follows : PySem.W.nsIn K mainGlobals "_law_follows" = some (some (.ref f_law_follows)))
    (l_law_follows : K.lookup f_law_follows = some ⟨o_law_follows, od_law_follows, .func (PySem.W.fnOf "_law_follows" "_law_follows" (defArgs (topS 14)) (defBody (topS 14)) (defScope (topS 14)) .none kV_law_follows dc_law_follows pm_law_follows an_law_follows cd_law_follows ct_law_follows), sl_law_follows⟩)
    (c_law_follows : PySem.W.codeIn K cd_law_follows "_law_follows" = true)
    (k_law_follows : PySem.W.keepIn K (.ref f_law_follows) = true)
    {o_law_take kV_law_take dc_law_take pm_law_take cd_law_take ct_law_take : Value} {od_law_take an_law_take : Option Addr} {sl_law_take : Array (Option Value)} {f_law_take : Addr}
    (a_law_take : PySem.W.nsIn K mainGlobals "_law_take" = some (some (.ref f_law_take)))
    (l_law_take : K.lookup f_law_take = some ⟨o_law_take, od_law_take, .func (PySem.W.fnOf "_law_take" "_law_take" (defArgs (topS 7)) (defBody (topS 7)) (defScope (topS 7)) .none kV_law_take dc_law_take pm_law_take an_law_take cd_law_take ct_law_take), sl_law_take⟩)
    (c_law_take : PySem.W.codeIn K cd_law_take "_law_take" = true)
    (k_law_take : PySem.W.keepIn K (.ref f_law_take) = true)
    {o_law_one kV_law_one dc_law_one pm_law_one cd_law_one ct_law_one : Value} {od_law_one an_law_one : Option Addr} {sl_law_one : Array (Option Value)} {f_law_one : Addr}
    (a_law_one : PySem.W.nsIn K mainGlobals "_law_one" = some (some (.ref f_law_one)))
    (l_law_one : K.lookup f_law_one = some ⟨o_law_one, od_law_one, .func (PySem.W.fnOf "_law_one" "_law_one" (defArgs (topS 8)) (defBody (topS 8)) (defScope (topS 8)) .none kV_law_one dc_law_one pm_law_one an_law_one cd_law_one ct_law_one), sl_law_one⟩)
    (c_law_one : PySem.W.codeIn K cd_law_one "_law_one" = true)
    (k_law_one : PySem.W.keepIn K (.ref f_law_one) = true)
    {o_law_mixed kV_law_mixed dc_law_mixed pm_law_mixed cd_law_mixed ct_law_mixed : Value} {od_law_mixed an_law_mixed : Option Addr} {sl_law_mixed : Array (Option Value)} {f_law_mixed : Addr}
    (a_law_mixed : PySem.W.nsIn K mainGlobals "_law_mixed" = some (some (.ref f_law_mixed)))
    (l_law_mixed : K.lookup f_law_mixed = some ⟨o_law_mixed, od_law_mixed, .func (PySem.W.fnOf "_law_mixed" "_law_mixed" (defArgs (topS 9)) (defBody (topS 9)) (defScope (topS 9)) .none kV_law_mixed dc_law_mixed pm_law_mixed an_law_mixed cd_law_mixed ct_law_mixed), sl_law_mixed⟩)
    (c_law_mixed : PySem.W.codeIn K cd_law_mixed "_law_mixed" = true)
    (k_law_mixed : PySem.W.keepIn K (.ref f_law_mixed) = true)
    {o_law_claim kV_law_claim dc_law_claim pm_law_claim cd_law_claim ct_law_claim : Value} {od_law_claim an_law_claim : Option Addr} {sl_law_claim : Array (Option Value)} {f_law_claim : Addr}
    (a_law_claim : PySem.W.nsIn K mainGlobals "_law_claim" = some (some (.ref f_law_claim)))
    (l_law_claim : K.lookup f_law_claim = some ⟨o_law_claim, od_law_claim, .func (PySem.W.fnOf "_law_claim" "_law_claim" (defArgs (topS 11)) (defBody (topS 11)) (defScope (topS 11)) .none kV_law_claim dc_law_claim pm_law_claim an_law_claim cd_law_claim ct_law_claim), sl_law_claim⟩)
    (c_law_claim : PySem.W.codeIn K cd_law_claim "_law_claim" = true)
    (k_law_claim : PySem.W.keepIn K (.ref f_law_claim) = true)
    {o_law_claims kV_law_claims dc_law_claims pm_law_claims cd_law_claims ct_law_claims : Value} {od_law_claims an_law_claims : Option Addr} {sl_law_claims : Array (Option Value)} {f_law_claims : Addr}
    (a_law_claims : PySem.W.nsIn K mainGlobals "_law_claims" = some (some (.ref f_law_claims)))
    (l_law_claims : K.lookup f_law_claims = some ⟨o_law_claims, od_law_claims, .func (PySem.W.fnOf "_law_claims" "_law_claims" (defArgs (topS 16)) (defBody (topS 16)) (defScope (topS 16)) .none kV_law_claims dc_law_claims pm_law_claims an_law_claims cd_law_claims ct_law_claims), sl_law_claims⟩)
    (c_law_claims : PySem.W.codeIn K cd_law_claims "_law_claims" = true)
    (k_law_claims : PySem.W.keepIn K (.ref f_law_claims) = true)
    {o_law_are_many_right kV_law_are_many_right dc_law_are_many_right pm_law_are_many_right cd_law_are_many_right ct_law_are_many_right : Value} {od_law_are_many_right an_law_are_many_right : Option Addr} {sl_law_are_many_right : Array (Option Value)} {f_law_are_many_right : Addr}
    (a_law_are_many_right : PySem.W.nsIn K mainGlobals "_law_are_many_right" = some (some (.ref f_law_are_many_right)))
    (l_law_are_many_right : K.lookup f_law_are_many_right = some ⟨o_law_are_many_right, od_law_are_many_right, .func (PySem.W.fnOf "_law_are_many_right" "_law_are_many_right" (defArgs (topS 18)) (defBody (topS 18)) (defScope (topS 18)) .none kV_law_are_many_right dc_law_are_many_right pm_law_are_many_right an_law_are_many_right cd_law_are_many_right ct_law_are_many_right), sl_law_are_many_right⟩)
    (c_law_are_many_right : PySem.W.codeIn K cd_law_are_many_right "_law_are_many_right" = true)
    (k_law_are_many_right : PySem.W.keepIn K (.ref f_law_are_many_right) = true)
    {o_law_bag kV_law_bag dc_law_bag pm_law_bag cd_law_bag ct_law_bag : Value} {od_law_bag an_law_bag : Option Addr} {sl_law_bag : Array (Option Value)} {f_law_bag : Addr}
    (a_law_bag : PySem.W.nsIn K mainGlobals "_law_bag" = some (some (.ref f_law_bag)))
    (l_law_bag : K.lookup f_law_bag = some ⟨o_law_bag, od_law_bag, .func (PySem.W.fnOf "_law_bag" "_law_bag" (defArgs (topS 6)) (defBody (topS 6)) (defScope (topS 6)) .none kV_law_bag dc_law_bag pm_law_bag an_law_bag cd_law_bag ct_law_bag), sl_law_bag⟩)
    (c_law_bag : PySem.W.codeIn K cd_law_bag "_law_bag" = true)
    (k_law_bag : PySem.W.keepIn K (.ref f_law_bag) = true)
    {o_law kV_law dc_law pm_law cd_law ct_law : Value} {od_law an_law : Option Addr} {sl_law : Array (Option Value)} {f_law : Addr}
    (a_law : PySem.W.nsIn K mainGlobals "law" = some (some (.ref f_law)))
    (l_law : K.lookup f_law = some ⟨o_law, od_law, .func (PySem.W.fnOf "law" "law" (defArgs (topS 19)) (defBody (topS 19)) (defScope (topS 19)) .none kV_law dc_law pm_law an_law cd_law ct_law), sl_law⟩)
    (c_law : PySem.W.codeIn K cd_law "law" = true)
    (k_law : PySem.W.keepIn K (.ref f_law) = true)
    (zabs : PySem.W.nsIn K mainGlobals "abs" = some none)
    (zall : PySem.W.nsIn K mainGlobals "all" = some none)
    (zany : PySem.W.nsIn K mainGlobals "any" = some none)
    (zint : PySem.W.nsIn K mainGlobals "int" = some none)
    (zlen : PySem.W.nsIn K mainGlobals "len" = some none)
    (zlist : PySem.W.nsIn K mainGlobals "list" = some none)
    (zmax : PySem.W.nsIn K mainGlobals "max" = some none)
    (zrange : PySem.W.nsIn K mainGlobals "range" = some none)
    (zrepr : PySem.W.nsIn K mainGlobals "repr" = some none)
    (zset : PySem.W.nsIn K mainGlobals "set" = some none)
    (zsorted : PySem.W.nsIn K mainGlobals "sorted" = some none)
    (ztuple : PySem.W.nsIn K mainGlobals "tuple" = some none)
    : ∃ fd : FuncData, (∀ (s : Shared) (v : Value), BindsTo s fd ⟨[v], []⟩ [("_law_script", v)]) ∧ ∀ (N : Nat) (base : Heap), K.In base → base.Ns mainGlobals mg → FnG P w K mg base CX0 6 fa fd ["_law_script"] (spOf K 1 (m_law N)) := by
  have e := hfa.symm.trans (PySem.W.mg_of X G a_law)
  cases e
  have B : NoB mg := ⟨PySem.W.mg_none_of X G zabs, PySem.W.mg_none_of X G zall, PySem.W.mg_none_of X G zany, PySem.W.mg_none_of X G zint, PySem.W.mg_none_of X G zlen, PySem.W.mg_none_of X G zlist, PySem.W.mg_none_of X G zmax, PySem.W.mg_none_of X G zrange, PySem.W.mg_none_of X G zrepr, PySem.W.mg_none_of X G zset, PySem.W.mg_none_of X G zsorted, PySem.W.mg_none_of X G ztuple⟩
  have F_is_waiting := L2.fun_mk (st := topS 1) l_is_waiting c_is_waiting k_is_waiting
  have bd_is_waiting := F_is_waiting.binds (ps := ["claims", "index", "left"]) fun _ _ _ _ _ _ us hl => match us, hl with | [_, _, _], _ => rfl
  have F_left_by := L2.fun_mk (st := topS 2) l_left_by c_left_by k_left_by
  have bd_left_by := F_left_by.binds (ps := ["many", "claims", "kept"]) fun _ _ _ _ _ _ us hl => match us, hl with | [_, _, _], _ => rfl
  have F_can_all_hold := L2.fun_mk (st := topS 3) l_can_all_hold c_can_all_hold k_can_all_hold
  have bd_can_all_hold := F_can_all_hold.binds (ps := ["many", "claims"]) fun _ _ _ _ _ _ us hl => match us, hl with | [_, _], _ => rfl
  have F_follows := L2.fun_mk (st := topS 4) l_follows c_follows k_follows
  have bd_follows := F_follows.binds (ps := ["many", "claims", "claim"]) fun _ _ _ _ _ _ us hl => match us, hl with | [_, _, _], _ => rfl
  have F_law_alike := L2.fun_mk (st := topS 10) l_law_alike c_law_alike k_law_alike
  have bd_law_alike := F_law_alike.binds (ps := ["_law_found", "_law_due"]) fun _ _ _ _ _ _ us hl => match us, hl with | [_, _], _ => rfl
  have F_law_in_order := L2.fun_mk (st := topS 12) l_law_in_order c_law_in_order k_law_in_order
  have bd_law_in_order := F_law_in_order.binds (ps := ["_law_order", "_law_claim_here"]) fun _ _ _ _ _ _ us hl => match us, hl with | [_, _], _ => rfl
  have F_law_all_orders := L2.fun_mk (st := topS 15) l_law_all_orders c_law_all_orders k_law_all_orders
  have bd_law_all_orders := F_law_all_orders.binds (ps := ["_law_many"]) fun _ _ _ _ _ _ us hl => match us, hl with | [_], _ => rfl
  have F_law_is_by_all := L2.fun_mk (st := topS 17) l_law_is_by_all c_law_is_by_all k_law_is_by_all
  have bd_law_is_by_all := F_law_is_by_all.binds (ps := ["_law_many", "_law_claims_here", "_law_claim_here"]) fun _ _ _ _ _ _ us hl => match us, hl with | [_, _, _], _ => rfl
  have F_law_claims_left := L2.fun_mk (st := topS 13) l_law_claims_left c_law_claims_left k_law_claims_left
  have bd_law_claims_left := F_law_claims_left.binds (ps := ["_law_many", "_law_claims_here", "_law_lot"]) fun _ _ _ _ _ _ us hl => match us, hl with | [_, _, _], _ => rfl
  have F_law_follows := L2.fun_mk (st := topS 14) l_law_follows c_law_follows k_law_follows
  have bd_law_follows := F_law_follows.binds (ps := ["_law_many", "_law_claims_here", "_law_claim_here"]) fun _ _ _ _ _ _ us hl => match us, hl with | [_, _, _], _ => rfl
  have F_law_take := L2.fun_mk (st := topS 7) l_law_take c_law_take k_law_take
  have bd_law_take := F_law_take.binds (ps := ["_law_bag_here", "_law_many"]) fun _ _ _ _ _ _ us hl => match us, hl with | [_, _], _ => rfl
  have F_law_one := L2.fun_mk (st := topS 8) l_law_one c_law_one k_law_one
  have bd_law_one := F_law_one.binds (ps := ["_law_bag_here", "_law_things"]) fun _ _ _ _ _ _ us hl => match us, hl with | [_, _], _ => rfl
  have F_law_mixed := L2.fun_mk (st := topS 9) l_law_mixed c_law_mixed k_law_mixed
  have bd_law_mixed := F_law_mixed.binds (ps := ["_law_bag_here", "_law_things"]) fun _ _ _ _ _ _ us hl => match us, hl with | [_, _], _ => rfl
  have F_law_claim := L2.fun_mk (st := topS 11) l_law_claim c_law_claim k_law_claim
  have bd_law_claim := F_law_claim.binds (ps := ["_law_bag_here", "_law_many"]) fun _ _ _ _ _ _ us hl => match us, hl with | [_, _], _ => rfl
  have F_law_claims := L2.fun_mk (st := topS 16) l_law_claims c_law_claims k_law_claims
  have bd_law_claims := F_law_claims.binds (ps := ["_law_bag_here", "_law_many"]) fun _ _ _ _ _ _ us hl => match us, hl with | [_, _], _ => rfl
  have F_law_are_many_right := L2.fun_mk (st := topS 18) l_law_are_many_right c_law_are_many_right k_law_are_many_right
  have bd_law_are_many_right := F_law_are_many_right.binds (ps := ["_law_bag_here"]) fun _ _ _ _ _ _ us hl => match us, hl with | [_], _ => rfl
  have F_law_bag := L2.fun_mk (st := topS 6) l_law_bag c_law_bag k_law_bag
  have bd_law_bag := F_law_bag.binds (ps := ["_law_script"]) fun _ _ _ _ _ _ us hl => match us, hl with | [_], _ => rfl
  have F_law := L2.fun_mk (st := topS 19) l_law c_law k_law
  refine ⟨PySem.W.fnOf "law" "law" (defArgs (topS 19)) (defBody (topS 19)) (defScope (topS 19)) .none kV_law dc_law pm_law an_law cd_law ct_law, fun s v => .of_eq rfl, fun N base _ _ => ?_⟩
  have G_is_waiting := ok_is_waiting (P := P) (w := w) (base := base) N F_is_waiting B 
  have H_is_waiting : Has P w K mg base 1 "is_waiting" ["claims", "index", "left"] 3 (m_is_waiting N) := ⟨_, _, PySem.W.mg_of X G a_is_waiting, F_is_waiting.kp, bd_is_waiting, G_is_waiting⟩
  have G_left_by := ok_left_by (P := P) (w := w) (base := base) N F_left_by B H_is_waiting
  have H_left_by : Has P w K mg base 2 "left_by" ["many", "claims", "kept"] 3 (m_left_by N) := ⟨_, _, PySem.W.mg_of X G a_left_by, F_left_by.kp, bd_left_by, G_left_by⟩
  have G_can_all_hold := ok_can_all_hold (P := P) (w := w) (base := base) N F_can_all_hold B H_left_by
  have H_can_all_hold : Has P w K mg base 3 "can_all_hold" ["many", "claims"] 2 (m_can_all_hold N) := ⟨_, _, PySem.W.mg_of X G a_can_all_hold, F_can_all_hold.kp, bd_can_all_hold, G_can_all_hold⟩
  have G_follows := ok_follows (P := P) (w := w) (base := base) N F_follows B H_left_by H_can_all_hold
  have H_follows : Has P w K mg base 4 "follows" ["many", "claims", "claim"] 3 (m_follows N) := ⟨_, _, PySem.W.mg_of X G a_follows, F_follows.kp, bd_follows, G_follows⟩
  have G_law_alike := ok_law_alike (P := P) (w := w) (base := base) N F_law_alike B 
  have H_law_alike : Has P w K mg base 1 "_law_alike" ["_law_found", "_law_due"] 2 (m_law_alike N) := ⟨_, _, PySem.W.mg_of X G a_law_alike, F_law_alike.kp, bd_law_alike, G_law_alike⟩
  have G_law_in_order := ok_law_in_order (P := P) (w := w) (base := base) N F_law_in_order B 
  have H_law_in_order : Has P w K mg base 1 "_law_in_order" ["_law_order", "_law_claim_here"] 2 (m_law_in_order N) := ⟨_, _, PySem.W.mg_of X G a_law_in_order, F_law_in_order.kp, bd_law_in_order, G_law_in_order⟩
  have G_law_all_orders := ok_law_all_orders (P := P) (w := w) (base := base) N F_law_all_orders B 
  have H_law_all_orders : Has P w K mg base 1 "_law_all_orders" ["_law_many"] 1 (m_law_all_orders N) := ⟨_, _, PySem.W.mg_of X G a_law_all_orders, F_law_all_orders.kp, bd_law_all_orders, G_law_all_orders⟩
  have G_law_is_by_all := ok_law_is_by_all (P := P) (w := w) (base := base) N F_law_is_by_all B H_follows H_can_all_hold H_law_alike H_law_in_order H_law_all_orders
  have H_law_is_by_all : Has P w K mg base 5 "_law_is_by_all" ["_law_many", "_law_claims_here", "_law_claim_here"] 3 (m_law_is_by_all N) := ⟨_, _, PySem.W.mg_of X G a_law_is_by_all, F_law_is_by_all.kp, bd_law_is_by_all, G_law_is_by_all⟩
  have G_law_claims_left := ok_law_claims_left (P := P) (w := w) (base := base) N F_law_claims_left B 
  have H_law_claims_left : Has P w K mg base 1 "_law_claims_left" ["_law_many", "_law_claims_here", "_law_lot"] 3 (m_law_claims_left N) := ⟨_, _, PySem.W.mg_of X G a_law_claims_left, F_law_claims_left.kp, bd_law_claims_left, G_law_claims_left⟩
  have G_law_follows := ok_law_follows (P := P) (w := w) (base := base) N F_law_follows B H_law_claims_left
  have H_law_follows : Has P w K mg base 2 "_law_follows" ["_law_many", "_law_claims_here", "_law_claim_here"] 3 (m_law_follows N) := ⟨_, _, PySem.W.mg_of X G a_law_follows, F_law_follows.kp, bd_law_follows, G_law_follows⟩
  have G_law_take := ok_law_take (P := P) (w := w) (base := base) N F_law_take B 
  have H_law_take : Has P w K mg base 1 "_law_take" ["_law_bag_here", "_law_many"] 2 (m_law_take N) := ⟨_, _, PySem.W.mg_of X G a_law_take, F_law_take.kp, bd_law_take, G_law_take⟩
  have G_law_one := ok_law_one (P := P) (w := w) (base := base) N F_law_one B H_law_take
  have H_law_one : Has P w K mg base 2 "_law_one" ["_law_bag_here", "_law_things"] 2 (m_law_one N) := ⟨_, _, PySem.W.mg_of X G a_law_one, F_law_one.kp, bd_law_one, G_law_one⟩
  have G_law_mixed := ok_law_mixed (P := P) (w := w) (base := base) N F_law_mixed B H_law_take
  have H_law_mixed : Has P w K mg base 2 "_law_mixed" ["_law_bag_here", "_law_things"] 2 (m_law_mixed N) := ⟨_, _, PySem.W.mg_of X G a_law_mixed, F_law_mixed.kp, bd_law_mixed, G_law_mixed⟩
  have G_law_claim := ok_law_claim (P := P) (w := w) (base := base) N F_law_claim B H_law_mixed H_law_one H_law_take
  have H_law_claim : Has P w K mg base 3 "_law_claim" ["_law_bag_here", "_law_many"] 2 (m_law_claim N) := ⟨_, _, PySem.W.mg_of X G a_law_claim, F_law_claim.kp, bd_law_claim, G_law_claim⟩
  have G_law_claims := ok_law_claims (P := P) (w := w) (base := base) N F_law_claims B H_law_one H_law_take H_law_in_order H_law_claim H_law_mixed
  have H_law_claims : Has P w K mg base 4 "_law_claims" ["_law_bag_here", "_law_many"] 2 (m_law_claims N) := ⟨_, _, PySem.W.mg_of X G a_law_claims, F_law_claims.kp, bd_law_claims, G_law_claims⟩
  have G_law_are_many_right := ok_law_are_many_right (P := P) (w := w) (base := base) N F_law_are_many_right B H_follows H_can_all_hold H_law_alike H_law_follows H_law_claim H_law_in_order H_law_one H_law_mixed
  have H_law_are_many_right : Has P w K mg base 5 "_law_are_many_right" ["_law_bag_here"] 1 (m_law_are_many_right N) := ⟨_, _, PySem.W.mg_of X G a_law_are_many_right, F_law_are_many_right.kp, bd_law_are_many_right, G_law_are_many_right⟩
  have G_law_bag := ok_law_bag (P := P) (w := w) (base := base) N F_law_bag B 
  have H_law_bag : Has P w K mg base 1 "_law_bag" ["_law_script"] 1 (m_law_bag N) := ⟨_, _, PySem.W.mg_of X G a_law_bag, F_law_bag.kp, bd_law_bag, G_law_bag⟩
  have G_law := ok_law (P := P) (w := w) (base := base) N F_law B H_law_is_by_all H_follows H_law_alike H_law_follows H_law_take H_law_one H_law_claim H_can_all_hold H_law_mixed H_law_claims_left H_law_claims H_law_are_many_right H_law_bag
  exact G_law
end FT

set_option autoImplicit false
/-! the law's draws -/
namespace FT
open PySem PySem.Spec PyProof.Rows L2 FM
structure BagT where
  big : Int
  seed : Int
  at_ : Int
  cells : List Int
structure BagT.Ok (b : BagT) : Prop where
  big : 0 ≤ b.big
  seed : 0 ≤ b.seed ∧ b.seed < 2147483647
  at_ : 0 ≤ b.at_
  cells : b.cells.length ≤ 63
def bagC (b : BagT) : Cell := .lst [.int b.big, .int b.seed, .int b.at_, .lst (vi b.cells)]
/-- the bag is the first object of the lowest frame -/
def HB (s : S) : Prop := ∃ b : BagT, lk s 0 0 = some (bagC b) ∧ b.Ok
/-- s, its bag changed -/
def sb (s : S) (b : BagT) : S := up s 0 0 (bagC b)
theorem HB.len {s : S} (h : HB s) : 0 < s.length := by
  obtain ⟨b, e, _⟩ := h
  exact lk_lt e
theorem HB.push {s : S} (h : HB s) (fr : List Cell) : HB (fr :: s) := by
  have hl := h.len
  obtain ⟨b, e, o⟩ := h
  exact ⟨b, by rw [lk_push hl]; exact e, o⟩
theorem HB.sb {s : S} (h : HB s) {b : BagT} (o : b.Ok) : HB (sb s b) := by
  obtain ⟨b', e, _⟩ := h
  exact ⟨b, lk_up_same e, o⟩
theorem sb_push {s : S} (h : HB s) (fr : List Cell) (b : BagT) : FT.sb (fr :: s) b = fr :: FT.sb s b := up_push h.len
theorem sb_sb (s : S) (b b' : BagT) : FT.sb (FT.sb s b) b' = FT.sb s b' := up_up _ _ _ _ _
theorem sb_len (s : S) (b : BagT) : (FT.sb s b).length = s.length := up_length _ _ _ _
theorem cut_head (l : List Int) (k : Int) : ∃ c : Int, (cutL (vi l) (some k) none ++ [Val.int 0])[0]? = some (.int c) := by
  unfold cutL
  cases e : (List.drop (FM.sIx (vi l).length 0 (some k)) (vi l)).take (FM.sIx (vi l).length (vi l).length none - FM.sIx (vi l).length 0 (some k)) with
  | nil => exact ⟨0, rfl⟩
  | cons v r =>
    have hv : v ∈ vi l := List.mem_of_mem_drop (List.mem_of_mem_take (by rw [e]; exact List.mem_cons_self))
    obtain ⟨c, _, hc⟩ := List.mem_map.mp hv
    exact ⟨c, by rw [← hc]; rfl⟩
theorem cut_len {α : Type} (l : List α) (a b : Option Int) : (cutL l a b).length ≤ l.length := by
  unfold cutL; simp; omega
theorem ix_lst {s : S} {f n : Nat} {xs : List Val} (e : lk s f n = some (.lst xs)) (j : Int) : opIx s (.ref f n) (.int j) = (FM.ixN xs.length j).bind fun j => xs[j]? := by
  simp only [opIx, asQ, asL, e]
theorem set_lst {s : S} {f n : Nat} {xs : List Val} (e : lk s f n = some (.lst xs)) (j v : Int) : setL s (.ref f n) (.int j) (.int v) = (FM.ixN xs.length j).map fun m => up s f n (.lst (xs.set m (.int v))) := by
  simp only [setL, e]
  cases FM.ixN xs.length j <;> simp [below]
theorem opPow_1018 (s : S) : opPow s (.int 10) (.int 18) = some (.int 1000000000000000000) := rfl
def take1 : Sx := (sIf (tVal (eOp opEq (eOp opIx (eVar 0) (eC (.int 0))) (eC (.int 0)))) (sCons (sAsg (eOp opIx (eDead (fAdd (eDead (fSl (eOp opIx (eVar 0) (eC (.int 3))) (oSome (eOp opIx (eVar 0) (eC (.int 2)))) oNone)) (eDead (fLst (aCons (eC (.int 0)) aNil))))) (eC (.int 0))) (FM.gName 2))
    (sCons (sAugSub opAddI (eVar 0) (eC (.int 2)) (eC (.int 1)))
    (sCons (sIf (tVal (eOp opGe (eVar 2) (eOp opPow (eC (.int 10)) (eC (.int 18))))) (sCons (sSub (eVar 0) (eC (.int 0)) (eVar 2))
    sNil) sNil)
    (sCons (sAsg (eOp opAdd (eOp opAdd (eOp opMul (eOp opIx (eVar 0) (eC (.int 1))) (eC (.int 48271))) (eOp opMod (eCall bInt (aCons (eVar 2) aNil)) (eC (.int 2147483647)))) (eOp opMul (eC (.int 7919)) (eOp opIx (eVar 0) (eC (.int 2))))) (FM.gName 3))
    (sCons (sSub (eVar 0) (eC (.int 1)) (eOp opMod (eCall bInt (aCons (eVar 3) aNil)) (eC (.int 2147483647))))
    sNil))))) sNil)
theorem bag0 {s : S} {b : BagT} (e : lk s 0 0 = some (bagC b)) : opIx s (.ref 0 0) (.int 0) = some (.int b.big) := by rw [ix_lst e]; rfl
theorem bag1 {s : S} {b : BagT} (e : lk s 0 0 = some (bagC b)) : opIx s (.ref 0 0) (.int 1) = some (.int b.seed) := by rw [ix_lst e]; rfl
theorem bag2 {s : S} {b : BagT} (e : lk s 0 0 = some (bagC b)) : opIx s (.ref 0 0) (.int 2) = some (.int b.at_) := by rw [ix_lst e]; rfl
theorem bag3 {s : S} {b : BagT} (e : lk s 0 0 = some (bagC b)) : opIx s (.ref 0 0) (.int 3) = some (.lst (vi b.cells)) := by rw [ix_lst e]; rfl
theorem bagN2 {s : S} {b : BagT} (e : lk s 0 0 = some (bagC b)) : opIxN s (.ref 0 0) (.int 2) = some (.int b.at_) := by
  simp only [opIxN, asL, e, bagC]; rfl
theorem bagS0 {s : S} {b : BagT} (e : lk s 0 0 = some (bagC b)) (v : Int) : setL s (.ref 0 0) (.int 0) (.int v) = some (sb s { b with big := v }) := by rw [set_lst e]; rfl
theorem bagS1 {s : S} {b : BagT} (e : lk s 0 0 = some (bagC b)) (v : Int) : setL s (.ref 0 0) (.int 1) (.int v) = some (sb s { b with seed := v }) := by rw [set_lst e]; rfl
theorem bagS2 {s : S} {b : BagT} (e : lk s 0 0 = some (bagC b)) (v : Int) : setL s (.ref 0 0) (.int 2) (.int v) = some (sb s { b with at_ := v }) := by rw [set_lst e]; rfl
theorem lk_sb {s : S} {b b' : BagT} (e : lk s 0 0 = some (bagC b)) : lk (sb s b') 0 0 = some (bagC b') := lk_up_same e
theorem take1_run {s : S} {b : BagT} (e : lk s 0 0 = some (bagC b)) (o : b.Ok) {many : Int} :
    ∃ (x y : Option Val) (b' : BagT), b'.Ok ∧ take1 [some (.ref 0 0), some (.int many), none, none, none, none, none] s = .nx [some (.ref 0 0), some (.int many), x, y, none, none, none] (sb s b') := by
  by_cases hb : b.big = 0
  · obtain ⟨c, hc⟩ := cut_head b.cells b.at_
    have lc := cut_len (vi b.cells) (some b.at_) none
    have lc2 := o.cells
    rw [vi_len] at lc
    have lc3 : (cutL (vi b.cells) (some b.at_) none).length + 1 ≤ sizeLine := by unfold sizeLine; omega
    have hx : ∀ s : S, opIx s (.lst (cutL (vi b.cells) (some b.at_) none ++ [Val.int 0])) (.int 0) = some (.int c) := fun s => by
      simp only [opIx, asQ, asL]
      rw [show FM.ixN (cutL (vi b.cells) (some b.at_) none ++ [Val.int 0]).length 0 = some 0 by simp [FM.ixN]]
      exact hc
    have q1 : ∀ b', opIx (sb s b') (.ref 0 0) (.int 1) = some (.int b'.seed) := fun b' => bag1 (lk_sb e)
    have q2 : ∀ b', opIx (sb s b') (.ref 0 0) (.int 2) = some (.int b'.at_) := fun b' => bag2 (lk_sb e)
    have w0 : ∀ b' v, setL (sb s b') (.ref 0 0) (.int 0) (.int v) = some (sb (sb s b') { b' with big := v }) := fun b' v => bagS0 (lk_sb e) v
    have w1 : ∀ b' v, setL (sb s b') (.ref 0 0) (.int 1) (.int v) = some (sb (sb s b') { b' with seed := v }) := fun b' v => bagS1 (lk_sb e) v
    have p1 : ∀ (s : S) (i : Int), opMul s (.int i) (.int 48271) = some (.int (i * 48271)) := fun s i => opMul_r (by decide)
    have p2 : ∀ (s : S) (i : Int), opMul s (.int 7919) (.int i) = some (.int (7919 * i)) := fun s i => opMul_l (by decide)
    have p3 : ∀ (s : S) (i : Int), opMod s (.int i) (.int 2147483647) = some (.int (i % 2147483647)) := fun s i => opMod_int (by decide)
    have o2 := o.at_
    have o3 := o.seed
    by_cases hge : (1000000000000000000 : Int) ≤ c
    · simp [take1, bag0 e, hb, bag2 e, bag3 e, asL, asLn, lc3, hx, bagN2 e, opAddI, bagS2 e, opPow_1018, hge, q1, q2, w0, w1, p1, p2, p3, sb_sb]
      refine ⟨_, _, _, ?_, ⟨rfl, rfl⟩, rfl⟩
      exact ⟨by show (0 : Int) ≤ c; omega, ⟨Int.emod_nonneg _ (by decide), Int.emod_lt_of_pos _ (by decide)⟩, by show (0 : Int) ≤ b.at_ + 1; omega, lc2⟩
    · simp [take1, bag0 e, hb, bag2 e, bag3 e, asL, asLn, lc3, hx, bagN2 e, opAddI, bagS2 e, opPow_1018, hge, q1, q2, w0, w1, p1, p2, p3, sb_sb]
      refine ⟨_, _, _, ?_, ⟨rfl, rfl⟩, rfl⟩
      exact ⟨by show (0 : Int) ≤ 0; omega, ⟨Int.emod_nonneg _ (by decide), Int.emod_lt_of_pos _ (by decide)⟩, by show (0 : Int) ≤ b.at_ + 1; omega, lc2⟩
  · refine ⟨none, none, b, o, ?_⟩
    simp [take1, bag0 e, hb, sb]
    exact (up_self _ _ _ _ e).symm
theorem take_run (N : Nat) {s : S} (h : HB s) {many : Int} (hm : 0 < many) (hm2 : many < 2 ^ 30) :
    ∃ (v : Int) (b : BagT), b.Ok ∧ 0 ≤ v ∧ v < many ∧ m_law_take N [.ref 0 0, .int many] s = .ok (.val (.int v)) (sb s b) := by
  have hp := h.push []
  obtain ⟨b, e, o⟩ := hp
  obtain ⟨x, y, b1, o1, r1⟩ := take1_run e o (many := many)
  have e1 := lk_sb (b' := b1) e
  have push : ∀ b', FT.sb ([] :: s) b' = [] :: FT.sb s b' := fun b' => sb_push h [] b'
  have p1 : ∀ (s : S) (i : Int), opMul s (.int i) (.int 39373) = some (.int (i * 39373)) := fun s i => opMul_r (by decide)
  have p2 : ∀ (s : S) (i : Int), opMul s (.int i) (.int 30011) = some (.int (i * 30011)) := fun s i => opMul_r (by decide)
  have p3 : ∀ (s : S) (i : Int), opMod s (.int i) (.int many) = some (.int (i % many)) := fun s i => opMod_int hm
  have p4 : ∀ (s : S) (i : Int), opDiv s (.int i) (.int many) = some (.int (i / many)) := fun s i => opDiv_int hm hm2
  have p5 : ∀ (s : S) (i : Int), opMod s (.int i) (.int 1000000007) = some (.int (i % 1000000007)) := fun s i => opMod_int (by decide)
  have p6 : ∀ (s : S) (i : Int), opMod s (.int i) (.int 998244353) = some (.int (i % 998244353)) := fun s i => opMod_int (by decide)
  have p7 : ∀ (s : S) (i : Int), opDiv s (.int i) (.int 7) = some (.int (i / 7)) := fun s i => opDiv_int (by decide) (by decide)
  have p8 : ∀ (s : S) (i : Int), opMul s (.int (i % 1000000007)) (.int (i % 1000000007)) = some (.int (i % 1000000007 * (i % 1000000007))) := fun s i => opMul_r (by
    have := Int.emod_nonneg i (show (1000000007 : Int) ≠ 0 by decide)
    have := Int.emod_lt_of_pos i (show (0 : Int) < 1000000007 by decide)
    omega)
  have hd : ∀ r : Sx, (sCons take1 r) [some (.ref 0 0), some (.int many), none, none, none, none, none] ([] :: s) = r [some (.ref 0 0), some (.int many), x, y, none, none, none] (FT.sb ([] :: s) b1) := fun r => by
    rw [run_cons, r1]; rfl
  have st : m_law_take N [.ref 0 0, .int many] s = (match (b_law_take N) [some (.ref 0 0), some (.int many), none, none, none, none, none] ([] :: s) with
    | .rt v s1 => finish v s1
    | .nx _ s1 => finish .non s1
    | _ => .no) := rfl
  have un : b_law_take N = sCons take1 _ := rfl
  rw [st, un, hd]
  by_cases hb : 0 < b1.big
  · refine ⟨b1.big % many, { b1 with big := b1.big / many }, ⟨Int.ediv_nonneg o1.big (Int.le_of_lt hm), o1.seed, o1.at_, o1.cells⟩, Int.emod_nonneg _ (Int.ne_of_gt hm), Int.emod_lt_of_pos _ hm, ?_⟩
    simp [bag0 e1, hb, p3, p4, bagS0 e1, sb_sb]
    simp [push]
  · refine ⟨((b1.seed + 1) * 39373 % 1000000007) * ((b1.seed + 1) * 39373 % 1000000007) % 998244353 * 30011 % 998244353 / 7 % many, b1, o1, Int.emod_nonneg _ (Int.ne_of_gt hm), Int.emod_lt_of_pos _ hm, ?_⟩
    simp [bag0 e1, hb, bag1 e1, p1, p2, p3, p5, p6, p7, p8]
    simp [push]
end FT

set_option autoImplicit false
/-! what the program computes -/
namespace FT
open PySem PySem.Spec PyProof.Rows L2 FM
abbrev Cl := Int × List Int
def cl (c : Cl) : Val := .tup [.int c.1, .tup (vi c.2)]
def cls (cs : List Cl) : List Val := cs.map cl
def waits (cs : List Cl) (i : Int) (left : List Int) : Bool := cs.any fun c => decide (c.1 = i) && c.2.all fun o => decide (o ∈ left)
def freeOf (cs : List Cl) (kept left : List Int) : List Int := left.filter fun i => !decide (i ∈ kept) && !waits cs i left
/-- what is left, of left -/
def leftBy (cs : List Cl) (kept : List Int) : Nat → List Int → Option (List Int)
  | 0, _ => none
  | n + 1, left => match (freeOf cs kept left).getLast? with
    | none => some left
    | some x => leftBy cs kept n (left.erase x)
@[simp] theorem asQ_tup (s : S) (xs : List Val) : asQ s (.tup xs) = some xs := rfl
@[simp] theorem asQ_lst (s : S) (xs : List Val) : asQ s (.lst xs) = some xs := rfl
theorem ix0 (s : S) (c : Cl) : opIx s (cl c) (.int 0) = some (.int c.1) := rfl
theorem ix1 (s : S) (c : Cl) : opIx s (cl c) (.int 1) = some (.tup (vi c.2)) := rfl
theorem bAny_map {α : Type} (s : S) (f : α → Bool) (l : List α) : bAny s [.lst (l.map fun x => .bl (f x))] = some (.bl (l.any f)) := by
  simp [bAny, asL, Function.comp_def]
theorem bAll_map {α : Type} (s : S) (f : α → Bool) (l : List α) : bAll s [.lst (l.map fun x => .bl (f x))] = some (.bl (l.all f)) := by
  simp [bAll, asL, Function.comp_def]
theorem waiting_run (N : Nat) {s : S} {C L : Val} {cs : List Cl} {left : List Int} (hC : asQ s C = some (cls cs)) (hL : asQ s L = some (vi left)) (i : Int) :
    m_is_waiting N [C, .int i, L] s = .ok (.val (.bl (waits cs i left))) s := by
  have hC' : asQ ([] :: s) C = some (cls cs) := asQ_push hC
  have hL' : asQ ([] :: s) L = some (vi left) := asQ_push hL
  have inner : ∀ (c : Cl) (ρ : FM.Env), ρ[2]? = some (some L) → 4 < ρ.length →
      compL (still (.tup (vi c.2)) (vi c.2)) (FM.gName 4) FM.tYes (eOp opIn (eVar 4) (eVar 2)) ρ (vi c.2) [] ([] :: s) = .ok (c.2.map fun o => .bl (decide (o ∈ left))) ([] :: s) :=
    fun c ρ h2 h4 => compL_all Val.int _ rfl c.2 fun o _ => ⟨ρ.set 4 (some (.int o)), rfl, by simp [h4, h2, opIn_vi hL']⟩
  have outer : compL (still C (cls cs)) (FM.gName 3) FM.tYes
      (eAnd (eOp opEq (eOp opIx (eVar 3) (eC (.int 0))) (eVar 1)) (eCall bAll (aCons (eDead (fComp (iSeq (eOp opIx (eVar 3) (eC (.int 1)))) [4] (FM.gName 4) FM.tYes (eOp opIn (eVar 4) (eVar 2)))) aNil)))
      [some C, some (.int i), some L, none, none] (cls cs) [] ([] :: s) = .ok (cs.map fun c => .bl (decide (c.1 = i) && c.2.all fun o => decide (o ∈ left))) ([] :: s) :=
    compL_all cl _ (still_of hC') cs fun c _ => ⟨_, rfl, by
      simp [ix0, ix1, FM.wipe]
      by_cases h : c.1 = i
      · simp [h, inner, bAll_map]
      · simp [h]⟩
  simp [m_is_waiting, b_is_waiting, mkFn, hC', FM.wipe, outer, bAny_map, waits]
def lbBody (N : Nat) : Sx := (sCons (sAsg (eDead (fComp (iSeq (eVar 3)) [5] (FM.gName 5) (tAnd (tVal (eOp opNotIn (eVar 5) (eVar 2))) (tNot (tVal (eFn (m_is_waiting N) (aCons (eVar 1) (aCons (eVar 5) (aCons (eVar 3) aNil))))))) (eVar 5))) (FM.gName 4))
    (sCons (sIf (tVal (eOp opEq (eVar 4) (eDead (fLst aNil)))) (sCons (sRet (eVar 3))
    sNil) sNil)
    (sCons (sExpr (eChg cRemove (eVar 3) (aCons (eOp opIx (eVar 4) (eOp1 opNeg (eC (.int 1)))) aNil)))
    sNil)))
theorem left_run (N : Nat) {s : S} {C Kp : Val} {cs : List Cl} {kept F : List Int} {m : Nat} (hC : asQ s C = some (cls cs)) (hK : asQ s Kp = some (vi kept)) (hm : (m : Int) ≤ sizeLine) (hF : leftBy cs kept N (rg m) = some F) :
    m_left_by N [.int m, C, Kp] s = .ok (.cell (.lst (vi F))) s := by
  have hw : ∀ (n : Nat) (left : List Int) (a b : Option Val), leftBy cs kept n left = some F →
      whileL (tVal (eC (.bl true))) (lbBody N) n [some (.int m), some C, some Kp, some (.ref s.length 0), a, b] ([.lst (vi left)] :: s) = .rt (.ref s.length 0) ([.lst (vi F)] :: s) := by
    intro n
    induction n with
    | zero => intro left a b h; cases h
    | succ n ih =>
      intro left a b h
      have hC' : asQ ([.lst (vi left)] :: s) C = some (cls cs) := asQ_push hC
      have hK' : asQ ([.lst (vi left)] :: s) Kp = some (vi kept) := asQ_push hK
      have hl : lk ([.lst (vi left)] :: s) s.length 0 = some (.lst (vi left)) := lk_top
      have hL' : asQ ([.lst (vi left)] :: s) (.ref s.length 0) = some (vi left) := by simp [asQ, asL, hl]
      have comp : ∀ ρ : FM.Env, ρ = [some (.int m), some C, some Kp, some (.ref s.length 0), a, none] → compL (still (.ref s.length 0) (vi left)) (FM.gName 5) (tAnd (tVal (eOp opNotIn (eVar 5) (eVar 2))) (tNot (tVal (eFn (m_is_waiting N) (aCons (eVar 1) (aCons (eVar 5) (aCons (eVar 3) aNil))))))) (eVar 5)
          ρ (vi left) [] ([.lst (vi left)] :: s) = .ok (vi (freeOf cs kept left)) ([.lst (vi left)] :: s) := by
        intro ρ hρ
        subst hρ
        exact compL_pick Val.int (fun i => !decide (i ∈ kept) && !waits cs i left) Val.int (still_of hL') left fun i _ => ⟨_, rfl, by
          simp [opNotIn_vi hK', waiting_run N hC' hL']
          by_cases h : i ∈ kept <;> simp [h], fun _ => by simp⟩
      unfold leftBy at h
      have pe := opEq_nil (s := [.lst (vi left)] :: s) (l := vi (freeOf cs kept left)) (pureAll_vi _)
      cases e : (freeOf cs kept left).getLast? with
      | none =>
        rw [e] at h
        have en : (vi (freeOf cs kept left)).isEmpty = true := by rw [List.getLast?_eq_none_iff.mp e]; rfl
        rw [en] at pe
        have eF : left = F := Option.some.inj h
        simp [whileL, lbBody, hL', FM.wipe, comp, pe]
        rw [eF]
      | some x =>
        rw [e] at h
        have en : (vi (freeOf cs kept left)).isEmpty = false := by
          cases ef : freeOf cs kept left with
          | nil => rw [ef] at e; cases e
          | cons y r => rfl
        have hx : x ∈ left := (List.mem_filter.mp (List.mem_of_getLast? e)).1
        have ix := fun s => ix_last s e
        have ih' := ih (left.erase x) (some (.lst (vi (freeOf cs kept left)))) b h
        have up' : up ([.lst (vi left)] :: s) s.length 0 (.lst ((left.erase x).map Val.int)) = [.lst (vi (left.erase x))] :: s := up_top
        simp [whileL, lbBody, hL', FM.wipe, comp, pe, en, ix, isL, asL, hl, chg, cRemove, remI, hx, erase_idx, up']
        exact ih'
  have lt : -(2 ^ 60) < (m : Int) ∧ (m : Int) ≤ sizeLine := ⟨by omega, hm⟩
  have st : b_left_by N = sCons (sAsg (eLive (fRange (eVar 0))) (FM.gName 3)) (sCons (sWhile N (tVal (eC (.bl true))) (lbBody N)) sNil) := rfl
  have := hw N (rg m) none none hF
  have rc : retOf s.length [.lst (vi F)] (.ref s.length 0) = some (.cell (.lst (vi F))) := retOf_cell rfl (pureAll_vi _)
  have lt1 : (-1152921504606846976 : Int) < (m : Int) := by omega
  simp [m_left_by, st, mkFn, lt, lt1, rangeV_rg, this, rc]
end FT

set_option autoImplicit false
namespace FT
open PySem PySem.Spec PyProof.Rows L2 FM
theorem leftBy_total (cs : List Cl) (kept : List Int) : ∀ (n : Nat) (left : List Int), left.length < n → ∃ F, leftBy cs kept n left = some F
  | 0, _, h => absurd h (Nat.not_lt_zero _)
  | n + 1, left, h => by
    unfold leftBy
    cases e : (freeOf cs kept left).getLast? with
    | none => exact ⟨left, rfl⟩
    | some x =>
      have hx : x ∈ left := (List.mem_filter.mp (List.mem_of_getLast? e)).1
      have hl := List.length_erase_of_mem hx
      have hp := List.length_pos_of_mem hx
      exact leftBy_total cs kept n (left.erase x) (by omega)
def lb (cs : List Cl) (kept : List Int) (m : Nat) : List Int := (leftBy cs kept 100 (rg m)).getD []
theorem rg_len (m : Nat) : (rg m).length = m := by simp [rg]
theorem lb_eq (cs : List Cl) (kept : List Int) {m : Nat} (hm : m < 100) : leftBy cs kept 100 (rg m) = some (lb cs kept m) := by
  obtain ⟨F, e⟩ := leftBy_total cs kept 100 (rg m) (by rw [rg_len]; exact hm)
  unfold lb; rw [e]; rfl
theorem small_m {m : Nat} (hm : m < 100) : (m : Int) ≤ sizeLine := by unfold sizeLine; omega
section
variable {s : S} {C D : Val} {cs : List Cl} {m : Nat}
theorem can_run (hC : asQ s C = some (cls cs)) (hm : m < 100) : m_can_all_hold 100 [.int m, C] s = .ok (.val (.bl (lb cs [] m).isEmpty)) s := by
  have r := left_run 100 (s := [] :: s) (Kp := .tup []) (kept := []) (asQ_push hC) rfl (small_m hm) (lb_eq cs [] hm)
  have e := opEq_nil (s := [] :: s) (l := vi (lb cs [] m)) (pureAll_vi _)
  have ei : (vi (lb cs [] m)).isEmpty = (lb cs [] m).isEmpty := by cases lb cs [] m <;> rfl
  rw [ei] at e
  simp [m_can_all_hold, b_can_all_hold, mkFn, r, e]
def fol (cs : List Cl) (c : Cl) (m : Nat) : Bool := !(lb cs [] m).isEmpty || decide (c.1 ∈ lb cs c.2 m)
theorem fol_run (hC : asQ s C = some (cls cs)) (hm : m < 100) (c : Cl) : m_follows 100 [.int m, C, cl c] s = .ok (.val (.bl (fol cs c m))) s := by
  have h1 := can_run (s := [] :: s) (asQ_push hC) hm
  have r := left_run 100 (s := [] :: s) (Kp := .tup (vi c.2)) (kept := c.2) (asQ_push hC) rfl (small_m hm) (lb_eq cs c.2 hm)
  have hi := opIn_vi (s := [] :: s) (v := .lst (vi (lb cs c.2 m))) (l := lb cs c.2 m) rfl c.1
  unfold fol
  cases hb : (lb cs [] m).isEmpty with
  | false => simp [m_follows, b_follows, mkFn, h1, hb]
  | true => simp [m_follows, b_follows, mkFn, h1, hb, ix0, ix1, r, hi]
end
/-! the law's own reckoning -/
theorem waits_barred (cs : List Cl) (i : Int) (left : List Int) : decide (i ∈ (cs.filter fun c => (c.2.filter fun o => !decide (o ∈ left)).isEmpty).map (·.1)) = waits cs i left := by
  apply Bool.eq_iff_iff.mpr
  simp only [decide_eq_true_eq, List.mem_map, List.mem_filter, waits, List.any_eq_true, Bool.and_eq_true, List.all_eq_true, List.isEmpty_iff, List.filter_eq_nil_iff]
  constructor
  · rintro ⟨c, ⟨hc, h⟩, e⟩
    exact ⟨c, hc, e, fun o ho => by simpa using h o ho⟩
  · rintro ⟨c, hc, e, h⟩
    exact ⟨c, ⟨hc, fun o ho => by simpa using h o ho⟩, e⟩
theorem erase_filter {l : List Int} (h : l.Nodup) (x : Int) : l.erase x = l.filter fun i => decide (i ≠ x) := by
  rw [h.erase_eq_filter x]
  exact List.filter_congr fun i _ => by simp [bne]; rfl
theorem rg_nodup (m : Nat) : (rg m).Nodup := by
  unfold rg List.Nodup
  rw [List.pairwise_map]
  exact (List.nodup_range (n := m)).imp fun h e => h (Int.ofNat.inj e)
theorem leftBy_sub {cs : List Cl} {kept : List Int} : ∀ {n : Nat} {left F : List Int}, leftBy cs kept n left = some F → F.Sublist left
  | 0, _, _, h => by cases h
  | n + 1, left, F, h => by
    unfold leftBy at h
    split at h
    · cases h; exact List.Sublist.refl _
    · exact (leftBy_sub h).trans List.erase_sublist
def clBody : Sx := (sCons (sAsg (eDead (fComp (iSeq (eVar 1)) [6, 7] (FM.gTup [(FM.gName 6), (FM.gName 7)]) (tVal (eOp opEq (eDead (fComp (iSeq (eVar 7)) [8] (FM.gName 8) (tVal (eOp opNotIn (eVar 8) (eVar 3))) (eVar 8))) (eDead (fLst aNil)))) (eVar 6))) (FM.gName 4))
    (sCons (sAsg (eDead (fComp (iSeq (eVar 3)) [6] (FM.gName 6) (tAnd (tVal (eOp opNotIn (eVar 6) (eVar 2))) (tVal (eOp opNotIn (eVar 6) (eVar 4)))) (eVar 6))) (FM.gName 5))
    (sCons (sIf (tVal (eOp opEq (eVar 5) (eDead (fLst aNil)))) (sCons (sRet (eVar 3))
    sNil) sNil)
    (sCons (sAsg (eDead (fComp (iSeq (eVar 3)) [6] (FM.gName 6) (tVal (eOp opNe (eVar 6) (eOp opIx (eVar 5) (eOp1 opNeg (eC (.int 1)))))) (eVar 6))) (FM.gName 3))
    sNil))))
theorem claims_left_run {s : S} {C Kp : Val} {cs : List Cl} {kept : List Int} {m : Nat} (hC : asQ s C = some (cls cs)) (hK : asQ s Kp = some (vi kept)) (hm : m < 100) :
    m_law_claims_left 100 [.int m, C, Kp] s = .ok (.val (.lst (vi (lb cs kept m)))) s := by
  have hC' : asQ ([] :: s) C = some (cls cs) := asQ_push hC
  have hK' : asQ ([] :: s) Kp = some (vi kept) := asQ_push hK
  have hw : ∀ (n : Nat) (left F : List Int) (a b : Option Val), left.Nodup → leftBy cs kept n left = some F →
      whileL (tVal (eC (.bl true))) clBody n [some (.int m), some C, some Kp, some (.lst (vi left)), a, b, none, none, none] ([] :: s) = .rt (.lst (vi F)) ([] :: s) := by
    intro n
    induction n with
    | zero => intro left F a b _ h; cases h
    | succ n ih =>
      intro left F a b nd h
      have inner : ∀ (c : Cl) (ρ : FM.Env), ρ[3]? = some (some (.lst (vi left))) → 8 < ρ.length → compL (still (.tup (vi c.2)) (vi c.2)) (FM.gName 8) (tVal (eOp opNotIn (eVar 8) (eVar 3))) (eVar 8) ρ (vi c.2) [] ([] :: s) = .ok (vi (c.2.filter fun o => !decide (o ∈ left))) ([] :: s) :=
        fun c ρ h3 h8 => compL_pick Val.int (fun o => !decide (o ∈ left)) Val.int rfl c.2 fun o _ => ⟨ρ.set 8 (some (.int o)), rfl, by
          simp [h8, h3, opNotIn_vi (show asQ ([] :: s) (.lst (vi left)) = some (vi left) from rfl)], fun _ => by simp [h8]⟩
      have barred : compL (still C (cls cs)) (FM.gTup [FM.gName 6, FM.gName 7]) (tVal (eOp opEq (eDead (fComp (iSeq (eVar 7)) [8] (FM.gName 8) (tVal (eOp opNotIn (eVar 8) (eVar 3))) (eVar 8))) (eDead (fLst aNil)))) (eVar 6)
          [some (.int m), some C, some Kp, some (.lst (vi left)), a, b, none, none, none] (cls cs) [] ([] :: s) = .ok ((cs.filter fun c => (c.2.filter fun o => !decide (o ∈ left)).isEmpty).map fun c => .int c.1) ([] :: s) :=
        compL_pick cl _ (fun c => .int c.1) (still_of hC') cs fun c _ => ⟨_, rfl, by
          have e := opEq_nil (s := [] :: s) (l := vi (c.2.filter fun o => !decide (o ∈ left))) (pureAll_vi _)
          have ei : (vi (c.2.filter fun o => !decide (o ∈ left))).isEmpty = (c.2.filter fun o => !decide (o ∈ left)).isEmpty := by cases c.2.filter fun o => !decide (o ∈ left) <;> rfl
          rw [ei] at e
          simp [FM.wipe, inner, e], fun _ => by simp⟩
      have bq : ((cs.filter fun c => (c.2.filter fun o => !decide (o ∈ left)).isEmpty).map fun c => Val.int c.1) = vi ((cs.filter fun c => (c.2.filter fun o => !decide (o ∈ left)).isEmpty).map (·.1)) := by simp [vi]
      rw [bq] at barred
      generalize hB : (cs.filter fun c => (c.2.filter fun o => !decide (o ∈ left)).isEmpty).map (·.1) = B at barred
      have free : compL (still (.lst (vi left)) (vi left)) (FM.gName 6) (tAnd (tVal (eOp opNotIn (eVar 6) (eVar 2))) (tVal (eOp opNotIn (eVar 6) (eVar 4)))) (eVar 6)
          [some (.int m), some C, some Kp, some (.lst (vi left)), some (.lst (vi B)), b, none, none, none] (vi left) [] ([] :: s) = .ok (vi (freeOf cs kept left)) ([] :: s) :=
        compL_pick Val.int (fun i => !decide (i ∈ kept) && !waits cs i left) Val.int rfl left fun i _ => ⟨_, rfl, by
          have w := waits_barred cs i left
          rw [hB] at w
          simp [opNotIn_vi hK', opNotIn_vi (show asQ ([] :: s) (.lst (vi B)) = some (vi B) from rfl), w]
          by_cases h : i ∈ kept <;> simp [h], fun _ => by simp⟩
      unfold leftBy at h
      have pe := opEq_nil (s := [] :: s) (l := vi (freeOf cs kept left)) (pureAll_vi _)
      cases e : (freeOf cs kept left).getLast? with
      | none =>
        rw [e] at h
        have en : (vi (freeOf cs kept left)).isEmpty = true := by rw [List.getLast?_eq_none_iff.mp e]; rfl
        rw [en] at pe
        have eF : left = F := Option.some.inj h
        simp [whileL, clBody, hC', FM.wipe, barred, free, pe]
        rw [eF]
      | some x =>
        rw [e] at h
        have en : (vi (freeOf cs kept left)).isEmpty = false := by
          cases ef : freeOf cs kept left with
          | nil => rw [ef] at e; cases e
          | cons y r => rfl
        rw [en] at pe
        have ix := fun s => ix_last s e
        have out : compL (still (.lst (vi left)) (vi left)) (FM.gName 6) (tVal (eOp opNe (eVar 6) (eOp opIx (eVar 5) (eOp1 opNeg (eC (.int 1)))))) (eVar 6)
            [some (.int m), some C, some Kp, some (.lst (vi left)), some (.lst (vi B)), some (.lst (vi (freeOf cs kept left))), none, none, none] (vi left) [] ([] :: s) = .ok (vi (left.erase x)) ([] :: s) := by
          rw [erase_filter nd]
          exact compL_pick Val.int (fun i => decide (i ≠ x)) Val.int rfl left fun i _ => ⟨_, rfl, by simp [ix], fun _ => by simp⟩
        have ih' := ih (left.erase x) F (some (.lst (vi B))) (some (.lst (vi (freeOf cs kept left)))) (nd.erase x) h
        simp [whileL, clBody, hC', FM.wipe, barred, free, pe, out]
        exact ih'
  have lt1 : (-1152921504606846976 : Int) < (m : Int) := by omega
  have st : b_law_claims_left 100 = sCons (sAsg (eDead (fRange (eVar 0))) (FM.gName 3)) (sCons (sWhile 100 (tVal (eC (.bl true))) clBody) sNil) := rfl
  have := hw 100 (rg m) _ none none (rg_nodup m) (lb_eq cs kept hm)
  have rc : retOf s.length [] (.lst (vi (lb cs kept m))) = some (.val (.lst (vi (lb cs kept m)))) := retOf_pure (by unfold FM.pure; exact pureAll_vi _)
  simp [m_law_claims_left, st, mkFn, lt1, small_m hm, rangeV_rg, this, rc]
theorem lfol_run {s : S} {C : Val} {cs : List Cl} {m : Nat} (hC : asQ s C = some (cls cs)) (hm : m < 100) (c : Cl) : m_law_follows 100 [.int m, C, cl c] s = .ok (.val (.bl (fol cs c m))) s := by
  have r0 := claims_left_run (s := [] :: s) (Kp := .tup []) (kept := []) (asQ_push hC) rfl hm
  have r := claims_left_run (s := [] :: s) (Kp := .tup (vi c.2)) (kept := c.2) (asQ_push hC) rfl hm
  have e := opNe_nil (s := [] :: s) (l := vi (lb cs [] m)) (pureAll_vi _)
  have ei : (vi (lb cs [] m)).isEmpty = (lb cs [] m).isEmpty := by cases lb cs [] m <;> rfl
  rw [ei] at e
  have hi := opIn_vi (s := [] :: s) (v := .lst (vi (lb cs c.2 m))) (l := lb cs c.2 m) rfl c.1
  unfold fol
  cases hb : (lb cs [] m).isEmpty with
  | false => rw [hb] at e; simp [m_law_follows, b_law_follows, mkFn, r0, e]
  | true => rw [hb] at e; simp [m_law_follows, b_law_follows, mkFn, r0, e, ix0, ix1, r, hi]
end FT

set_option autoImplicit false
namespace FT
open PySem PySem.Spec PyProof.Rows L2 FM
theorem lk_top' {fr : List Cell} {s : S} {f n : Nat} (h : f = s.length) : lk (fr :: s) f n = fr[n]? := by subst h; exact lk_top
theorem up_top' {fr : List Cell} {s : S} {f n : Nat} {c : Cell} (h : f = s.length) : up (fr :: s) f n c = fr.set n c :: s := by subst h; exact up_top
theorem HB.self {s : S} (h : HB s) : ∃ b : BagT, b.Ok ∧ FT.sb s b = s := by
  obtain ⟨b, e, o⟩ := h
  exact ⟨b, o, up_self _ _ _ _ e⟩
theorem asL_sb {s : S} (h : HB s) (b : BagT) {X : Val} {xs : List Val} (hX : X ≠ .ref 0 0) (e : asL s X = some xs) : asL (FT.sb s b) X = some xs := by
  obtain ⟨b0, e0, _⟩ := h
  cases X <;> simp only [asL] at e ⊢ <;> try exact e
  rename_i f n
  split at e
  · rename_i ys el
    cases e
    have : ¬ (f = 0 ∧ n = 0) := fun ⟨h1, h2⟩ => hX (by rw [h1, h2])
    unfold FT.sb
    rw [lk_up e0, if_neg this, el]
  · cases e
theorem asQ_sb {s : S} (h : HB s) (b : BagT) {X : Val} {xs : List Val} (hX : X ≠ .ref 0 0) (e : asQ s X = some xs) : asQ (FT.sb s b) X = some xs := by
  cases X <;> simp only [asQ] at e ⊢ <;> first | exact e | exact asL_sb h b hX e
theorem pure_mem : ∀ {xs : List Val} {x : Val}, pureAll xs = true → x ∈ xs → FM.pure x = true
  | y :: ys, x, h, hx => by
    unfold pureAll at h
    simp only [Bool.and_eq_true] at h
    rcases List.mem_cons.mp hx with e | hx
    · rw [e]; exact h.1
    · exact pure_mem h.2 hx
theorem pureAll_of : ∀ {xs : List Val}, (∀ x ∈ xs, FM.pure x = true) → pureAll xs = true
  | [], _ => rfl
  | y :: ys, h => by
    unfold pureAll
    rw [h y List.mem_cons_self, pureAll_of fun x hx => h x (List.mem_cons_of_mem _ hx)]; rfl
/-- one of the things -/
theorem one_run (N : Nat) {s : S} (h : HB s) {X : Val} {xs : List Val} (hX : X ≠ .ref 0 0) (e : asQ s X = some xs) (hp : pureAll xs = true) (h0 : xs ≠ []) (hl : xs.length < 1000) :
    ∃ x ∈ xs, ∃ b : BagT, b.Ok ∧ m_law_one N [.ref 0 0, X] s = .ok (.val x) (FT.sb s b) := by
  have hpos : 0 < xs.length := List.length_pos_iff.mpr h0
  obtain ⟨v, b, o, v0, v1, r⟩ := take_run N (h.push []) (many := xs.length) (by omega) (by omega)
  rw [sb_push h] at r
  have e' : asQ ([] :: s) X = some xs := asQ_push e
  have e2 : asQ ([] :: FT.sb s b) X = some xs := asQ_push (asQ_sb h b hX e)
  have hv : v.toNat < xs.length := by omega
  have bl : bLen ([] :: s) [X] = some (.int xs.length) := by
    cases X <;> first | (simp [bLen, e']; done) | (simp [asQ, asL] at e; done)
  have ix : opIx ([] :: FT.sb s b) X (.int v) = some xs[v.toNat] := by
    simp only [opIx, e2]
    rw [show FM.ixN xs.length v = some v.toNat by unfold FM.ixN; rw [if_pos v0, if_pos v1]]
    exact List.getElem?_eq_getElem hv
  have hm := List.getElem_mem hv
  have rp := retOf_pure (d := (FT.sb s b).length) (fr := []) (pure_mem hp hm)
  refine ⟨xs[v.toNat], hm, b, o, ?_⟩
  simp [m_law_one, b_law_one, mkFn, bl, r, ix, rp]
theorem ins_perm (x : Val) (l : List Val) (k : Nat) : (l.take k ++ [x] ++ l.drop k).Perm (l ++ [x]) := by
  have h : (l.take k ++ [x] ++ l.drop k).Perm (l.take k ++ (l.drop k ++ [x])) := by
    rw [List.append_assoc]
    exact List.Perm.append_left _ List.perm_append_comm
  rw [← List.append_assoc, List.take_append_drop] at h
  exact h
theorem mixed_loop (N : Nat) {X : Val} {keep : S → Bool} : ∀ (xs found : List Val) (s : S) (y : Option Val), HB s → (∀ (fr : List Cell) (b : BagT), keep (fr :: FT.sb s b) = true) → found.length + xs.length < 1000 →
    ∃ (ys : List Val) (b : BagT) (y' : Option Val), b.Ok ∧ ys.Perm (found ++ xs) ∧
      forL keep (FM.gName 3) (sCons (sExpr (eChg cInsert (eVar 2) (aCons (eFn (m_law_take N) (aCons (eVar 0) (aCons (eOp opAdd (eCall bLen (aCons (eVar 2) aNil)) (eC (.int 1))) aNil))) (aCons (eVar 3) aNil)))) sNil)
        xs [some (.ref 0 0), some X, some (.ref s.length 0), y] ([.lst found] :: s) = .nx [some (.ref 0 0), some X, some (.ref s.length 0), y'] ([.lst ys] :: FT.sb s b)
  | [], found, s, y, h, hk, hl => by
    obtain ⟨b, o, e⟩ := h.self
    have k := hk [.lst found] b
    rw [e] at k
    exact ⟨found, b, y, o, by simp, by rw [e]; simp [forL, k]⟩
  | x :: xs, found, s, y, h, hk, hl => by
    simp only [List.length_cons] at hl
    obtain ⟨b0, o0, e0⟩ := h.self
    have k := hk [.lst found] b0
    rw [e0] at k
    obtain ⟨v, b, o, v0, v1, r⟩ := take_run N (h.push [.lst found]) (many := found.length + 1) (by omega) (by omega)
    rw [sb_push h] at r
    have h' := h.sb o
    have el : (FT.sb s b).length = s.length := sb_len s b
    obtain ⟨ys, b', y', o', p', r'⟩ := mixed_loop N (X := X) (keep := keep) xs (found.take v.toNat ++ [x] ++ found.drop v.toNat) (FT.sb s b) (some x) h' (fun fr b' => by rw [sb_sb]; exact hk fr b') (by simp; omega)
    rw [sb_sb, el] at r'
    refine ⟨ys, b', y', o', p'.trans ?_, ?_⟩
    · have := (ins_perm x found v.toNat).append_right xs
      simpa using this
    · have l1 : lk ([.lst found] :: s) s.length 0 = some (.lst found) := lk_top
      have l2 : lk ([.lst found] :: FT.sb s b) s.length 0 = some (.lst found) := lk_top' el.symm
      have u2 : ∀ c, up ([.lst found] :: FT.sb s b) s.length 0 c = [c] :: FT.sb s b := fun c => up_top' el.symm
      have c1 : found.length < sizeLine ∧ 0 ≤ v ∧ v < 2 ^ 63 := ⟨by unfold sizeLine; omega, v0, by omega⟩
      have bl : bLen ([.lst found] :: s) [.ref s.length 0] = some (.int found.length) := by simp [bLen, asQ, asL, l1]
      have ci : cInsert ([.lst found] :: FT.sb s b) [.int v, x] found = some (found.take v.toNat ++ [x] ++ found.drop v.toNat) := by
        show (if found.length < sizeLine ∧ 0 ≤ v ∧ v < 2 ^ 63 then some (found.take v.toNat ++ [x] ++ found.drop v.toNat) else none) = _
        rw [if_pos c1]
      have ch : chg ([.lst found] :: FT.sb s b) (.ref s.length 0) (cInsert ([.lst found] :: FT.sb s b) [.int v, x]) [.int v, x] = .ok .non ([.lst (found.take v.toNat ++ [x] ++ found.drop v.toNat)] :: FT.sb s b) := by
        simp only [chg, l2, ci]
        rw [if_pos (.inl (by simp [el])), u2]
      simp only [forL, k, if_true, run_gname]
      simp [isL, asL, l1, bl, r, ch]
      simpa using r'
theorem mixed_run (N : Nat) {s : S} (h : HB s) {X : Val} {xs : List Val} (hX : X ≠ .ref 0 0) (e : asQ s X = some xs) (hp : pureAll xs = true) (hl : xs.length < 1000) :
    ∃ (ys : List Val) (b : BagT), b.Ok ∧ ys.Perm xs ∧ m_law_mixed N [.ref 0 0, X] s = .ok (.cell (.lst ys)) (FT.sb s b) := by
  obtain ⟨ys, b, y', o, p, r⟩ := mixed_loop N (X := X) (keep := still X xs) xs [] s none h (fun fr b => still_of (asQ_push (asQ_sb h b hX e))) (by simpa using hl)
  have p' : ys.Perm xs := by simpa using p
  have el : (FT.sb s b).length = s.length := sb_len s b
  have rc : retOf (FT.sb s b).length [.lst ys] (.ref s.length 0) = some (.cell (.lst ys)) := by
    rw [el]
    exact retOf_cell rfl (pureAll_of fun x hx => pure_mem hp (p'.mem_iff.mp hx))
  have e1 : asQ ([.lst []] :: s) X = some xs := asQ_push e
  refine ⟨ys, b, o, p', ?_⟩
  simp [m_law_mixed, b_law_mixed, mkFn, e1, r, rc]
/-! ### claims drawn -/
structure Good (m : Nat) (c : Cl) : Prop where
  i0 : 0 ≤ c.1
  i1 : c.1 < m
  ne : c.2 ≠ []
  l0 : ∀ o ∈ c.2, 0 ≤ o
  l1 : ∀ o ∈ c.2, o < m
  no : ∀ o ∈ c.2, o ≠ c.1
  len : c.2.length ≤ 40
theorem perm_ints : ∀ {ys : List Val} {l : List Int}, ys.Perm (vi l) → ∃ l' : List Int, l'.Perm l ∧ ys = vi l' := by
  intro ys l h
  have : ∀ y ∈ ys, ∃ k, y = .int k := fun y hy => by
    obtain ⟨k, _, e⟩ := List.mem_map.mp (h.mem_iff.mp hy)
    exact ⟨k, e.symm⟩
  let back : Val → Int := fun v => match v with | .int k => k | _ => 0
  have hb : ∀ l : List Int, (vi l).map back = l := fun l => by
    unfold vi; rw [List.map_map]; exact List.map_id'' (fun _ => rfl) l
  refine ⟨ys.map back, by have := h.map back; rwa [hb] at this, ?_⟩
  unfold vi
  rw [List.map_map]
  conv => lhs; rw [← List.map_id ys]
  exact List.map_congr_left fun y hy => by
    obtain ⟨k, rfl⟩ := this y hy
    rfl
theorem mem_rg {m : Nat} {i : Int} : i ∈ rg m ↔ 0 ≤ i ∧ i < m := by
  unfold rg
  simp only [List.mem_map, List.mem_range]
  constructor
  · rintro ⟨k, hk, rfl⟩; omega
  · rintro ⟨h0, h1⟩; exact ⟨i.toNat, by omega, by omega⟩
theorem claim_run (N : Nat) {s : S} (h : HB s) {m : Nat} (h2 : 2 ≤ m) (hm : m ≤ 40) :
    ∃ (c : Cl) (b : BagT), b.Ok ∧ Good m c ∧ m_law_claim N [.ref 0 0, .int m] s = .ok (.val (cl c)) (FT.sb s b) := by
  obtain ⟨i, b1, o1, i0, i1, r1⟩ := take_run N (h.push []) (many := m) (by omega) (by omega)
  rw [sb_push h] at r1
  have h1 := h.sb o1
  have pick : compL (fun _ => true) (FM.gName 5) (tVal (eOp opNe (eVar 5) (eVar 2))) (eVar 5) [some (.ref 0 0), some (.int m), some (.int i), none, none, none] (vi (rg m)) [] ([] :: FT.sb s b1) = .ok (vi ((rg m).filter fun k => decide (k ≠ i))) ([] :: FT.sb s b1) :=
    compL_pick Val.int (fun k => decide (k ≠ i)) Val.int rfl (rg m) fun k _ => ⟨_, rfl, by simp, fun _ => by simp⟩
  generalize hO : ((rg m).filter fun k => decide (k ≠ i)) = O at pick
  have hOl : O.length ≤ 40 := by rw [← hO]; exact Nat.le_trans (List.length_filter_le _ _) (by rw [rg_len]; exact hm)
  have hO1 : O ≠ [] := by
    rw [← hO]
    intro z
    have : ∀ k ∈ rg m, ¬ decide (k ≠ i) = true := List.filter_eq_nil_iff.mp z
    by_cases hi : i = 0
    · exact this 1 (mem_rg.mpr ⟨by omega, by omega⟩) (by simp [hi])
    · exact this 0 (mem_rg.mpr ⟨by omega, by omega⟩) (by simpa using fun e => hi e.symm)
  obtain ⟨ys, b2, o2, p2, r2⟩ := mixed_run N (h1.push []) (X := .lst (vi O)) (fun z => by cases z) rfl (pureAll_vi _) (by rw [vi_len]; omega)
  rw [sb_push h1, sb_sb] at r2
  obtain ⟨l, pl, rfl⟩ := perm_ints p2
  have h2' := h.sb o2
  obtain ⟨k, hk, b3, o3, r3⟩ := one_run N (h2'.push []) (X := .lst (vi [1, 2, 1, 3, 2])) (fun z => by cases z) rfl (pureAll_vi _) (by simp) (by simp)
  rw [sb_push h2', sb_sb] at r3
  have hk' : ∃ z : Int, k = .int z ∧ 1 ≤ z ∧ z ≤ 3 := by
    simp only [vi_cons, vi_nil, List.mem_cons, List.not_mem_nil, or_false] at hk
    rcases hk with e | e | e | e | e <;> exact ⟨_, e, by omega, by omega⟩
  obtain ⟨z, rfl, z1, z3⟩ := hk'
  have cut : ∃ c2 : List Int, cutL (vi l) none (some z) = vi c2 ∧ c2 ≠ [] ∧ (∀ o ∈ c2, o ∈ l) ∧ c2.length ≤ l.length := by
    refine ⟨l.take z.toNat, ?_, ?_, fun o ho => List.mem_of_mem_take ho, by simp; omega⟩
    · unfold cutL FM.sIx
      simp only [List.drop_zero, vi_len]
      rw [if_neg (by omega)]
      unfold vi
      rw [List.map_take]
      by_cases hz : z.toNat ≤ l.length
      · rw [Nat.min_eq_left hz]; rfl
      · rw [Nat.min_eq_right (by omega), List.take_of_length_le (by simp), List.take_of_length_le (by simp; omega)]
    · have : l ≠ [] := fun e => hO1 (by rw [e] at pl; exact pl.symm.eq_nil)
      intro e
      rcases List.take_eq_nil_iff.mp e with e | e
      · omega
      · exact this e
  obtain ⟨c2, ec, cne, cm, cll⟩ := cut
  obtain ⟨sp, ss⟩ := sortI_spec c2
  have mO : ∀ o ∈ sortI c2, o ∈ (rg m).filter fun k => decide (k ≠ i) := fun o ho => by rw [hO]; exact pl.mem_iff.mp (cm o (sp.mem_iff.mp ho))
  have g : Good m (i, sortI c2) := by
    refine ⟨i0, i1, fun e => cne (by rw [show sortI c2 = [] from e] at sp; exact sp.symm.eq_nil), fun o ho => ?_, fun o ho => ?_, fun o ho => ?_, ?_⟩
    · exact (mem_rg.mp (List.mem_filter.mp (mO o ho)).1).1
    · exact (mem_rg.mp (List.mem_filter.mp (mO o ho)).1).2
    · simpa using (List.mem_filter.mp (mO o ho)).2
    · show (sortI c2).length ≤ 40
      rw [sp.length_eq]
      have := pl.length_eq
      omega
  have lt1 : (-1152921504606846976 : Int) < (m : Int) := by omega
  have rc : ∀ fr, retOf (FT.sb s b3).length fr (cl (i, sortI c2)) = some (.val (cl (i, sortI c2))) := fun fr => retOf_pure (by simp [cl, FM.pure, pureAll])
  refine ⟨(i, sortI c2), b3, o3, g, ?_⟩
  have rc' := rc []
  simp only [cl] at rc'
  simp only [vi_cons, vi_nil] at r3
  simp [m_law_claim, b_law_claim, mkFn, r1, lt1, small_m (show m < 100 by omega), rangeV_rg, FM.wipe, pick, r2, r3, asL, ec]
  have e2 : (sortI c2).map Val.int = vi (sortI c2) := rfl
  simp [e2, rc', cl]
end FT

set_option autoImplicit false
namespace FT
open PySem PySem.Spec PyProof.Rows L2 FM
/-- the order keeps the claim -/
def inOrd (o : List Int) (c : Cl) : Bool := c.2.any fun x => decide (o.idxOf c.1 < o.idxOf x)
theorem lt_foldl (i : Int) : ∀ (ns : List Int) (n : Int), i < ns.foldl max n ↔ i < n ∨ ∃ x ∈ ns, i < x
  | [], n => by simp
  | m :: ns, n => by
    rw [List.foldl_cons, lt_foldl i ns (max n m)]
    simp only [List.mem_cons, exists_eq_or_imp]
    rw [← or_assoc]
    have : i < max n m ↔ i < n ∨ i < m := by omega
    rw [this]
theorem max_any (i : Int) (l : List Int) (h : l ≠ []) : ∃ m, maxI l = some m ∧ decide (i < m) = l.any fun x => decide (i < x) := by
  cases l with
  | nil => exact absurd rfl h
  | cons n ns =>
    refine ⟨_, rfl, ?_⟩
    apply Bool.eq_iff_iff.mpr
    rw [decide_eq_true_eq, lt_foldl, List.any_eq_true]
    simp
theorem idx_run {s : S} {O : Val} {o : List Int} (hO : asL s O = some (vi o) ∨ O = .tup (vi o)) {k : Int} (hk : k ∈ o) {ρ : FM.Env} {e : Ex} {a : Ax} (he : e ρ s = .ok O s) (ha : a ρ s = .ok [.int k] s) :
    eAlt (eMeth bIndex e a) (eMethT bIndexT e a) ρ s = .ok (.int (o.idxOf k : Nat)) s := by
  rcases hO with h | rfl
  · simp [he, h, ha, bIndex, hk]
  · simp [he, asL, asT, ha, bIndexT, hk]
theorem in_order_run (N : Nat) {s : S} {O : Val} {o : List Int} (hO : asL s O = some (vi o) ∨ O = .tup (vi o)) {c : Cl} (h1 : c.1 ∈ o) (h2 : ∀ x ∈ c.2, x ∈ o) (h3 : c.2 ≠ []) :
    m_law_in_order N [O, cl c] s = .ok (.val (.bl (inOrd o c))) s := by
  have hO' : asL ([] :: s) O = some (vi o) ∨ O = .tup (vi o) := hO.imp asL_push id
  have i1 := idx_run (ρ := [some O, some (cl c), some (.int c.1), some (.tup (vi c.2)), none]) (e := eVar 0) (a := aCons (eVar 2) aNil) hO' h1 rfl rfl
  have comp : compL (still (.tup (vi c.2)) (vi c.2)) (FM.gName 4) FM.tYes (eAlt (eMeth bIndex (eVar 0) (aCons (eVar 4) aNil)) (eMethT bIndexT (eVar 0) (aCons (eVar 4) aNil))) [some O, some (cl c), some (.int c.1), some (.tup (vi c.2)), none] (vi c.2) [] ([] :: s)
      = .ok (c.2.map fun x => .int (o.idxOf x : Nat)) ([] :: s) :=
    compL_all Val.int _ rfl c.2 fun x hx => ⟨_, rfl, idx_run hO' (h2 x hx) rfl rfl⟩
  obtain ⟨m, em, hm⟩ := max_any (o.idxOf c.1 : Nat) (c.2.map fun x => (o.idxOf x : Int)) (by simpa using h3)
  have ev : (c.2.map fun x => Val.int (o.idxOf x : Nat)) = vi (c.2.map fun x => (o.idxOf x : Int)) := by simp [vi]
  have bm : bMax ([] :: s) [.lst (vi (c.2.map fun x => (o.idxOf x : Int)))] = some (.int m) := by
    simp [bMax, asL, em]
  have ed : inOrd o c = decide (((o.idxOf c.1 : Nat) : Int) < m) := by
    rw [hm]; unfold inOrd
    rw [List.any_map]
    congr 1
    funext x
    simp
  rw [ev] at comp
  have st : ∀ ρ s', b_law_in_order N ρ s' = (sAsg (eVar 1) (FM.gTup [FM.gName 2, FM.gName 3]) ρ s').then (sCons (sRet (eOp opLt (eAlt (eMeth bIndex (eVar 0) (aCons (eVar 2) aNil)) (eMethT bIndexT (eVar 0) (aCons (eVar 2) aNil))) (eCall bMax (aCons (eDead (fComp (iSeq (eVar 3)) [4] (FM.gName 4) FM.tYes (eAlt (eMeth bIndex (eVar 0) (aCons (eVar 4) aNil)) (eMethT bIndexT (eVar 0) (aCons (eVar 4) aNil))))) aNil)))) sNil) := fun _ _ => rfl
  simp only [cl] at i1 comp
  simp [m_law_in_order, mkFn, st, cl, -run_alt, i1, FM.wipe, comp, bm, ed]
/-! ### alike -/
mutual
theorem lay_of_pure : ∀ v : Val, FM.pure v = true → (toD v).canLay0 = true
  | .non, _ => by simp [toD, PyData.canLay0]
  | .bl _, _ => by simp [toD, PyData.canLay0]
  | .int _, _ => by simp [toD, PyData.canLay0]
  | .str _, h => by unfold FM.pure at h; simpa [toD, PyData.canLay0] using h
  | .tup xs, h => by unfold FM.pure at h; simpa [toD, PyData.canLay0] using layAll_of_pure xs h
  | .lst xs, h => by unfold FM.pure at h; simpa [toD, PyData.canLay0] using layAll_of_pure xs h
  | .scr xs, h => by unfold FM.pure at h; simpa [toD, PyData.canLay0] using layAll_of_pure xs h
  | .dct _ _, h => by unfold FM.pure at h; cases h
  | .ref _ _, h => by unfold FM.pure at h; cases h
theorem layAll_of_pure : ∀ v : List Val, pureAll v = true → PyData.canLayAll0 (toDs v) = true
  | [], _ => by simp [toDs, PyData.canLayAll0]
  | x :: xs, h => by
    unfold pureAll at h
    simp only [Bool.and_eq_true] at h
    simp [toDs, PyData.canLayAll0, lay_of_pure x h.1, layAll_of_pure xs h.2]
end
theorem veq_refl {v : Val} (h : FM.pure v = true) : veq v v = true := PySem.SeqAt.eqv_refl _ (lay_of_pure v h)
theorem opEq_refl {s : S} {v : Val} (h : FM.pure v = true) (hd : (toD v).depth ≤ 64) : opEq s v v = some (.bl true) := by
  unfold opEq
  split
  · simp
  · simp only [res_pure h, veq_refl h]
    rw [if_pos (by simp [shallow, hd])]
theorem alike_run (N : Nat) {s : S} {v : Val} {z : PySem.Str} (h : FM.pure v = true) (hd : (toD v).depth ≤ 64) (hr : ∀ s, bRepr s [v] = some (.str z)) : m_law_alike N [v, v] s = .ok (.val (.bl true)) s := by
  have e1 := opEq_refl (s := [] :: s) h hd
  have e2 : opEq ([] :: s) (.str z) (.str z) = some (.bl true) := by simp [opEq]
  simp [m_law_alike, b_law_alike, mkFn, e1, hr, e2]
theorem repr_ok {v : Val} (h : FM.pure v = true) (hs : (toD v).showable = true) (hl : (toD v).shown.length ≤ sizeLine) (hd : (toD v).depth ≤ 64) (s : S) : bRepr s [v] = some (.str (toD v).shown) := by
  simp only [bRepr, res_pure h]
  rw [if_pos ⟨hs, hl, hd⟩]
theorem alike_bl (N : Nat) (s : S) (a : Bool) : m_law_alike N [.bl a, .bl a] s = .ok (.val (.bl true)) s :=
  alike_run N rfl (by simp [toD, PyData.depth]) (repr_ok rfl (by simp [toD, PyData.showable]) (by cases a <;> decide) (by simp [toD, PyData.depth]))
theorem alike_bls2 (N : Nat) (s : S) (a b : Bool) : m_law_alike N [.lst [.bl a, .bl b], .lst [.bl a, .bl b]] s = .ok (.val (.bl true)) s :=
  alike_run N rfl (by simp [toD, toDs, PyData.depth, PyData.depthAll]) (repr_ok rfl (by simp [toD, toDs, PyData.showable, PyData.showableAll]) (by cases a <;> cases b <;> decide) (by simp [toD, toDs, PyData.depth, PyData.depthAll]))
theorem alike_bls3 (N : Nat) (s : S) (a b c : Bool) : m_law_alike N [.lst [.bl a, .bl b, .bl c], .lst [.bl a, .bl b, .bl c]] s = .ok (.val (.bl true)) s :=
  alike_run N rfl (by simp [toD, toDs, PyData.depth, PyData.depthAll]) (repr_ok rfl (by simp [toD, toDs, PyData.showable, PyData.showableAll]) (by cases a <;> cases b <;> cases c <;> decide) (by simp [toD, toDs, PyData.depth, PyData.depthAll]))
end FT

set_option autoImplicit false
/-! orders and what is left -/
namespace FT
open PySem PySem.Spec PyProof.Rows L2 FM
theorem waits_iff {cs : List Cl} {i : Int} {L : List Int} : waits cs i L = true ↔ ∃ c ∈ cs, c.1 = i ∧ ∀ x ∈ c.2, x ∈ L := by
  simp [waits]
theorem waits_mono {cs : List Cl} {i : Int} {L M : List Int} (h : ∀ x ∈ M, x ∈ L) (hw : waits cs i L = false) : waits cs i M = false := by
  cases e : waits cs i M with
  | false => rfl
  | true =>
    obtain ⟨c, hc, e1, e2⟩ := waits_iff.mp e
    have := waits_iff.mpr ⟨c, hc, e1, fun x hx => h x (e2 x hx)⟩
    rw [hw] at this; cases this
theorem leftBy_stuck {cs : List Cl} {kept : List Int} : ∀ {n : Nat} {left F : List Int}, leftBy cs kept n left = some F → freeOf cs kept F = []
  | 0, _, _, h => by cases h
  | n + 1, left, F, h => by
    unfold leftBy at h
    split at h
    · rename_i e
      cases h
      exact List.getLast?_eq_none_iff.mp e
    · exact leftBy_stuck h
theorem stuck_waits {cs : List Cl} {kept F : List Int} (h : freeOf cs kept F = []) {i : Int} (hi : i ∈ F) (hk : i ∉ kept) : waits cs i F = true := by
  have := List.filter_eq_nil_iff.mp h i hi
  cases e : waits cs i F with
  | true => rfl
  | false => rw [e] at this; simp [hk] at this
theorem argmax (f : Int → Nat) : ∀ (l : List Int), l ≠ [] → ∃ j ∈ l, ∀ x ∈ l, f x ≤ f j
  | [], h => absurd rfl h
  | [a], _ => ⟨a, by simp, by simp⟩
  | a :: b :: l, _ => by
    obtain ⟨j, hj, hm⟩ := argmax f (b :: l) (by simp)
    by_cases h : f j ≤ f a
    · exact ⟨a, by simp, fun x hx => by
        rcases List.mem_cons.mp hx with e | hx
        · rw [e]; omega
        · exact Nat.le_trans (hm x hx) h⟩
    · exact ⟨j, List.mem_cons_of_mem _ hj, fun x hx => by
        rcases List.mem_cons.mp hx with e | hx
        · rw [e]; omega
        · exact hm x hx⟩
/-- nothing that waits stands last -/
theorem no_stuck {cs : List Cl} {kept F o : List Int} (h : freeOf cs kept F = []) (ho : ∀ c ∈ cs, inOrd o c = true) {i : Int} (hi : i ∈ F) (hk : i ∉ kept) (hl : ∀ x ∈ kept, ¬ o.idxOf i < o.idxOf x) : False := by
  obtain ⟨j, hj, hm⟩ := argmax (fun x => o.idxOf x) F (List.ne_nil_of_mem hi)
  obtain ⟨k, hkF, hkk, hkm⟩ : ∃ k ∈ F, k ∉ kept ∧ ∀ x ∈ F, o.idxOf x ≤ o.idxOf k := by
    by_cases e : o.idxOf i < o.idxOf j
    · exact ⟨j, hj, fun q => hl j q e, hm⟩
    · exact ⟨i, hi, hk, fun x hx => Nat.le_trans (hm x hx) (Nat.not_lt.mp e)⟩
  obtain ⟨c, hc, e1, e2⟩ := waits_iff.mp (stuck_waits h hkF hkk)
  obtain ⟨x, hx, hlt⟩ := List.any_eq_true.mp (ho c hc)
  have hlt := of_decide_eq_true hlt
  rw [e1] at hlt
  have := hkm x (e2 x hx)
  omega
/-- taken one after the other -/
inductive Rem (cs : List Cl) : List Int → List Int → List Int → Prop where
  | nil {L} : Rem cs L [] L
  | cons {L x r F} : x ∈ L → waits cs x L = false → Rem cs (L.erase x) r F → Rem cs L (x :: r) F
theorem leftBy_rem {cs : List Cl} {kept : List Int} : ∀ {n : Nat} {left F : List Int}, leftBy cs kept n left = some F → ∃ r, Rem cs left r F ∧ ∀ x ∈ r, x ∉ kept
  | 0, _, _, h => by cases h
  | n + 1, left, F, h => by
    unfold leftBy at h
    split at h
    · cases h; exact ⟨[], .nil, by simp⟩
    · rename_i x e
      obtain ⟨hx, hp⟩ := List.mem_filter.mp (List.mem_of_getLast? e)
      simp only [Bool.and_eq_true, Bool.not_eq_true', decide_eq_false_iff_not] at hp
      obtain ⟨r, hr, hk⟩ := leftBy_rem h
      exact ⟨x :: r, .cons hx hp.2 hr, fun y hy => by
        rcases List.mem_cons.mp hy with e | hy
        · rw [e]; exact hp.1
        · exact hk y hy⟩
theorem Rem.append {cs : List Cl} {L r F r' G : List Int} (h : Rem cs L r F) (h' : Rem cs F r' G) : Rem cs L (r ++ r') G := by
  induction h with
  | nil => exact h'
  | cons a b _ ih => exact .cons a b (ih h')
theorem Rem.perm {cs : List Cl} {L r F : List Int} (h : Rem cs L r F) : (r ++ F).Perm L := by
  induction h with
  | nil => simp
  | cons a b _ ih => exact (List.Perm.cons _ ih).trans (List.perm_cons_erase a).symm
theorem Rem.part {cs : List Cl} {L r E : List Int} (h : Rem cs L r E) : ∀ {F : List Int}, E = [] → L.Nodup → F.Nodup → (∀ x ∈ F, x ∈ L) → ∃ r', Rem cs F r' [] := by
  induction h with
  | nil =>
    intro F e _ _ hs
    subst e
    have : F = [] := List.eq_nil_iff_forall_not_mem.mpr fun x hx => absurd (hs x hx) (by simp)
    subst this
    exact ⟨[], .nil⟩
  | @cons L x r E a b _ ih =>
    intro F e ndL ndF hs
    by_cases hx : x ∈ F
    · obtain ⟨r', hr⟩ := ih (F := F.erase x) e (ndL.erase x) (ndF.erase x) fun y hy => by
        obtain ⟨h1, h2⟩ := (List.Nodup.mem_erase_iff ndF).mp hy
        exact (List.Nodup.mem_erase_iff ndL).mpr ⟨h1, hs y h2⟩
      exact ⟨x :: r', .cons hx (waits_mono hs b) hr⟩
    · obtain ⟨r', hr⟩ := ih (F := F) e (ndL.erase x) ndF fun y hy => (List.Nodup.mem_erase_iff ndL).mpr ⟨fun e => hx (e ▸ hy), hs y hy⟩
      exact ⟨r', hr⟩
theorem Rem.claim {cs : List Cl} {L r E : List Int} (h : Rem cs L r E) : E = [] → L.Nodup → ∀ c ∈ cs, c.1 ∈ L → ∃ A B, r = A ++ c.1 :: B ∧ ∃ x ∈ c.2, x ∈ A ∨ x ∉ L := by
  induction h with
  | nil => intro e _ c _ hc; rw [e] at hc; cases hc
  | @cons L y r E a b _ ih =>
    intro e nd c hc h1
    by_cases ey : y = c.1
    · refine ⟨[], r, by rw [ey]; rfl, ?_⟩
      by_cases hall : ∀ x ∈ c.2, x ∈ L
      · have := waits_iff.mpr ⟨c, hc, ey.symm, hall⟩
        rw [b] at this; cases this
      · simp only [Classical.not_forall] at hall
        obtain ⟨x, hx, hn⟩ := hall
        exact ⟨x, hx, .inr hn⟩
    · obtain ⟨A, B, er, x, hx, hor⟩ := ih e (nd.erase y) c hc ((List.Nodup.mem_erase_iff nd).mpr ⟨fun e => ey e.symm, h1⟩)
      refine ⟨y :: A, B, by rw [er]; rfl, x, hx, ?_⟩
      rcases hor with h | h
      · exact .inl (List.mem_cons_of_mem _ h)
      · by_cases e : x = y
        · exact .inl (by rw [e]; exact List.mem_cons_self)
        · exact .inr fun q => h ((List.Nodup.mem_erase_iff nd).mpr ⟨e, q⟩)
theorem idx_mid {o P Q : List Int} {x : Int} (e : o = P ++ x :: Q) (nd : o.Nodup) : o.idxOf x = P.length := by
  subst e
  have hx : x ∉ P := fun h => (List.nodup_append.mp nd).2.2 x h x List.mem_cons_self rfl
  rw [List.idxOf_append, if_neg hx]
  simp
theorem idx_right {o P Q : List Int} {x y : Int} (e : o = P ++ x :: Q) (nd : o.Nodup) (hy : y ∈ Q) : o.idxOf x < o.idxOf y := by
  obtain ⟨A, B, eq⟩ := List.append_of_mem hy
  rw [idx_mid e nd, idx_mid (P := P ++ x :: A) (Q := B) (x := y) (by rw [e, eq]; simp) nd]
  simp
theorem rem_order {cs : List Cl} {L r : List Int} (h : Rem cs L r []) (nd : L.Nodup) (hc : ∀ c ∈ cs, c.1 ∈ L ∧ ∀ x ∈ c.2, x ∈ L) : r.reverse.Perm L ∧ ∀ c ∈ cs, inOrd r.reverse c = true := by
  have p : r.reverse.Perm L := (List.reverse_perm r).trans (by simpa using h.perm)
  refine ⟨p, fun c hcs => ?_⟩
  obtain ⟨A, B, er, x, hx, hor⟩ := h.claim rfl nd c hcs (hc c hcs).1
  have hA : x ∈ A := hor.resolve_right fun q => q ((hc c hcs).2 x hx)
  refine List.any_eq_true.mpr ⟨x, hx, decide_eq_true ?_⟩
  exact idx_right (P := B.reverse) (Q := A.reverse) (by rw [er]; simp) (p.nodup_iff.mpr nd) (List.mem_reverse.mpr hA)
section
variable {cs : List Cl} {m : Nat}
theorem good_in {c : Cl} (g : Good m c) : c.1 ∈ rg m ∧ ∀ x ∈ c.2, x ∈ rg m := ⟨mem_rg.mpr ⟨g.i0, g.i1⟩, fun x hx => mem_rg.mpr ⟨g.l0 x hx, g.l1 x hx⟩⟩
theorem can_iff (hm : m < 100) (hg : ∀ c ∈ cs, c.1 ∈ rg m ∧ ∀ x ∈ c.2, x ∈ rg m) : (lb cs [] m).isEmpty = true ↔ ∃ o : List Int, o.Perm (rg m) ∧ ∀ c ∈ cs, inOrd o c = true := by
  have e := lb_eq cs [] hm
  constructor
  · intro h
    rw [List.isEmpty_iff.mp h] at e
    obtain ⟨r, hr, _⟩ := leftBy_rem e
    exact ⟨r.reverse, rem_order hr (rg_nodup m) hg⟩
  · rintro ⟨o, _, ho⟩
    cases hF : lb cs [] m with
    | nil => rfl
    | cons i F =>
      rw [hF] at e
      exact (no_stuck (leftBy_stuck e) ho (i := i) List.mem_cons_self (by simp) (by simp)).elim
theorem fol_iff (hm : m < 100) (hg : ∀ c ∈ cs, Good m c) {c : Cl} (gc : Good m c) : fol cs c m = true ↔ ∀ o : List Int, o.Perm (rg m) → (∀ d ∈ cs, inOrd o d = true) → inOrd o c = true := by
  unfold fol
  simp only [Bool.or_eq_true, Bool.not_eq_true', decide_eq_true_eq]
  have e := lb_eq cs c.2 hm
  have no : c.1 ∉ c.2 := fun h => gc.no c.1 h rfl
  constructor
  · intro h o po ho
    rcases h with h | h
    · have := (can_iff hm fun d hd => good_in (hg d hd)).mpr ⟨o, po, ho⟩
      rw [h] at this; cases this
    · cases hb : inOrd o c with
      | true => rfl
      | false =>
        refine (no_stuck (leftBy_stuck e) ho h no fun x hx hlt => ?_).elim
        have := List.any_eq_false.mp hb x hx
        exact this (decide_eq_true hlt)
  · intro h
    cases hE : (lb cs [] m).isEmpty with
    | false => exact .inl rfl
    | true =>
      refine .inr (Classical.byContradiction fun hn => ?_)
      have e0 := lb_eq cs [] hm
      rw [List.isEmpty_iff.mp hE] at e0
      obtain ⟨r0, hr0, _⟩ := leftBy_rem e0
      obtain ⟨r1, hr1, hk⟩ := leftBy_rem e
      have sub := leftBy_sub e
      obtain ⟨r2, hr2⟩ := hr0.part (F := lb cs c.2 m) rfl (rg_nodup m) (sub.nodup (rg_nodup m)) fun x hx => sub.subset hx
      have hr := hr1.append hr2
      obtain ⟨p, ho⟩ := rem_order hr (rg_nodup m) fun d hd => good_in (hg d hd)
      have hb := h _ p ho
      obtain ⟨x, hx, hlt⟩ := List.any_eq_true.mp hb
      have hlt := of_decide_eq_true hlt
      have gin := good_in gc
      have i1 : c.1 ∈ r1 := by
        rcases List.mem_append.mp (hr1.perm.mem_iff.mpr gin.1) with q | q
        · exact q
        · exact absurd q hn
      have x2 : x ∈ r2 := by
        have q := hr.perm.mem_iff.mpr (gin.2 x hx)
        simp only [List.append_nil] at q
        rcases List.mem_append.mp q with q | q
        · exact absurd hx (hk x q)
        · exact q
      obtain ⟨A, B, er⟩ := List.append_of_mem x2
      have nd : (r1 ++ r2).reverse.Nodup := p.nodup_iff.mpr (rg_nodup m)
      have := idx_right (o := (r1 ++ r2).reverse) (P := B.reverse) (Q := A.reverse ++ r1.reverse) (x := x) (y := c.1) (by rw [er]; simp) nd (List.mem_append_right _ (List.mem_reverse.mpr i1))
      omega
end
end FT

set_option autoImplicit false
namespace FT
open PySem PySem.Spec PyProof.Rows L2 FM
/-! claims drawn -/
theorem cls_pure (cs : List Cl) : pureAll (cls cs) = true := pureAll_of fun x hx => by
  obtain ⟨c, _, rfl⟩ := List.mem_map.mp hx
  simp [cl, FM.pure, pureAll]
theorem cl_pure (c : Cl) : FM.pure (cl c) = true := by simp [cl, FM.pure, pureAll]
def clmBody (N : Nat) : Sx := (sCons (sAsg (eFn (m_law_claim N) (aCons (eVar 0) (aCons (eVar 1) aNil))) (FM.gName 5))
    (sCons (sIf (tOr (tVal (eFn (m_law_in_order N) (aCons (eVar 3) (aCons (eVar 5) aNil)))) (tVal (eOp opEq (eFn (m_law_take N) (aCons (eVar 0) (aCons (eC (.int 8)) aNil))) (eC (.int 0))))) (sCons (sExpr (eChg cAppend (eVar 2) (aCons (eVar 5) aNil)))
    sNil) sNil)
    sNil))
theorem perm_in {o : List Int} {m : Nat} (p : o.Perm (rg m)) {c : Cl} (g : c.1 ∈ rg m ∧ ∀ x ∈ c.2, x ∈ rg m) : c.1 ∈ o ∧ ∀ x ∈ c.2, x ∈ o := ⟨p.mem_iff.mpr g.1, fun x hx => p.mem_iff.mpr (g.2 x hx)⟩
theorem claims_loop (N : Nat) {m : Nat} (h2 : 2 ≤ m) (hm : m ≤ 40) {o : List Int} (po : o.Perm (rg m)) : ∀ (xs : List Val) (cs : List Cl) (s : S) (y z : Option Val), HB s → (∀ c ∈ cs, Good m c) → cs.length + xs.length ≤ 8 →
    ∃ (cs' : List Cl) (b : BagT) (y' z' : Option Val), b.Ok ∧ (∀ c ∈ cs', Good m c) ∧ cs'.length ≤ 8 ∧
      forL (fun _ => true) (FM.gName 4) (clmBody N) xs [some (.ref 0 0), some (.int m), some (.ref s.length 0), some (.lst (vi o)), y, z] ([.lst (cls cs)] :: s)
        = .nx [some (.ref 0 0), some (.int m), some (.ref s.length 0), some (.lst (vi o)), y', z'] ([.lst (cls cs')] :: FT.sb s b)
  | [], cs, s, y, z, h, hg, hl => by
    obtain ⟨b, ob, e⟩ := h.self
    exact ⟨cs, b, y, z, ob, hg, by simpa using hl, by rw [e]; simp [forL]⟩
  | x :: xs, cs, s, y, z, h, hg, hl => by
    simp only [List.length_cons] at hl
    obtain ⟨c, b1, o1, gc, r1⟩ := claim_run N (h.push [.lst (cls cs)]) h2 hm
    rw [sb_push h] at r1
    have h1 := h.sb o1
    have el : (FT.sb s b1).length = s.length := sb_len s b1
    have pin := perm_in po (good_in gc)
    have ri := in_order_run N (s := [.lst (cls cs)] :: FT.sb s b1) (O := .lst (vi o)) (o := o) (.inl rfl) pin.1 pin.2 gc.ne
    have ap1 : ∀ (b : BagT), isL ([.lst (cls cs)] :: FT.sb s b) (.ref s.length 0) = true := fun b => by
      simp only [isL, asL, lk_top' (fr := [Cell.lst (cls cs)]) (n := 0) (sb_len s b).symm]; rfl
    have ap2 : ∀ (b : BagT), chg ([.lst (cls cs)] :: FT.sb s b) (.ref s.length 0) (cAppend ([.lst (cls cs)] :: FT.sb s b) [cl c]) [cl c] = .ok .non ([.lst (cls (cs ++ [c]))] :: FT.sb s b) := fun b => by
      have eb : (FT.sb s b).length = s.length := sb_len s b
      have l2 : lk ([.lst (cls cs)] :: FT.sb s b) s.length 0 = some (.lst (cls cs)) := lk_top' eb.symm
      have c1 : (cls cs).length < sizeLine := by unfold cls sizeLine; rw [List.length_map]; omega
      have cl1 : cls cs ++ [cl c] = cls (cs ++ [c]) := by simp [cls]
      have ca : cAppend ([.lst (cls cs)] :: FT.sb s b) [cl c] (cls cs) = some (cls (cs ++ [c])) := by
        show (if (cls cs).length < sizeLine then some (cls cs ++ [cl c]) else none) = _
        rw [if_pos c1, cl1]
      simp only [chg, l2, ca]
      rw [if_pos (.inl (by simp [eb])), up_top' eb.symm]
      rfl
    cases hio : inOrd o c with
    | true =>
      rw [hio] at ri
      obtain ⟨cs', b', y', z', ob, g', l', r'⟩ := claims_loop N h2 hm po xs (cs ++ [c]) (FT.sb s b1) (some x) (some (cl c)) h1 (fun d hd => by
        rcases List.mem_append.mp hd with q | q
        · exact hg d q
        · rw [List.mem_singleton.mp q]; exact gc) (by simp; omega)
      rw [sb_sb, el] at r'
      refine ⟨cs', b', y', z', ob, g', l', ?_⟩
      simp only [clmBody] at r' ⊢
      simp [forL, r1, ri, ap1, ap2]
      exact r'
    | false =>
      rw [hio] at ri
      obtain ⟨v, b2, o2, v0, v1, r2⟩ := take_run N (h1.push [.lst (cls cs)]) (many := 8) (by omega) (by omega)
      rw [sb_push h1, sb_sb] at r2
      have el2 : (FT.sb s b2).length = s.length := sb_len s b2
      by_cases hv : v = 0
      · obtain ⟨cs', b', y', z', ob, g', l', r'⟩ := claims_loop N h2 hm po xs (cs ++ [c]) (FT.sb s b2) (some x) (some (cl c)) (h.sb o2) (fun d hd => by
          rcases List.mem_append.mp hd with q | q
          · exact hg d q
          · rw [List.mem_singleton.mp q]; exact gc) (by simp; omega)
        rw [sb_sb, el2] at r'
        refine ⟨cs', b', y', z', ob, g', l', ?_⟩
        simp only [clmBody] at r' ⊢
        simp [forL, r1, ri, r2, hv, ap1, ap2]
        exact r'
      · obtain ⟨cs', b', y', z', ob, g', l', r'⟩ := claims_loop N h2 hm po xs cs (FT.sb s b2) (some x) (some (cl c)) (h.sb o2) hg (by omega)
        rw [sb_sb, el2] at r'
        refine ⟨cs', b', y', z', ob, g', l', ?_⟩
        simp only [clmBody] at r' ⊢
        simp [forL, r1, ri, r2, hv]
        exact r'
end FT

set_option autoImplicit false
namespace FT
open PySem PySem.Spec PyProof.Rows L2 FM
theorem claims_run (N : Nat) {s : S} (h : HB s) {m : Nat} (h2 : 2 ≤ m) (hm : m ≤ 40) :
    ∃ (cs : List Cl) (b : BagT), b.Ok ∧ (∀ c ∈ cs, Good m c) ∧ cs.length ≤ 8 ∧ m_law_claims N [.ref 0 0, .int m] s = .ok (.cell (.lst (cls cs))) (FT.sb s b) := by
  obtain ⟨ys, b1, o1, p1, r1⟩ := mixed_run N (h.push [.lst []]) (X := .lst (vi (rg m))) (fun z => by cases z) rfl (pureAll_vi _) (by rw [vi_len, rg_len]; omega)
  rw [sb_push h] at r1
  obtain ⟨o, po, rfl⟩ := perm_ints p1
  have h1 := h.sb o1
  have el1 : (FT.sb s b1).length = s.length := sb_len s b1
  obtain ⟨k, hk, b2, o2, r2⟩ := one_run N (h1.push [.lst []]) (X := .lst (vi [3, 2, 5, 1, 8, 0])) (fun z => by cases z) rfl (pureAll_vi _) (by simp) (by simp)
  rw [sb_push h1, sb_sb] at r2
  have hk' : ∃ z : Nat, k = .int z ∧ z ≤ 8 := by
    simp only [vi_cons, vi_nil, List.mem_cons, List.not_mem_nil, or_false] at hk
    rcases hk with e | e | e | e | e | e
    · exact ⟨3, e, by omega⟩
    · exact ⟨2, e, by omega⟩
    · exact ⟨5, e, by omega⟩
    · exact ⟨1, e, by omega⟩
    · exact ⟨8, e, by omega⟩
    · exact ⟨0, e, by omega⟩
  obtain ⟨z, rfl, hz⟩ := hk'
  have el2 : (FT.sb s b2).length = s.length := sb_len s b2
  obtain ⟨cs, b3, y, w, o3, g, l, r3⟩ := claims_loop N h2 hm po (rangeV 0 z) [] (FT.sb s b2) none none (h.sb o2) (by simp) (by rw [rangeV_rg]; simp [rg_len]; omega)
  rw [sb_sb, el2] at r3
  have el3 : (FT.sb s b3).length = s.length := sb_len s b3
  have rc : retOf (FT.sb s b3).length [.lst (cls cs)] (.ref s.length 0) = some (.cell (.lst (cls cs))) := by rw [el3]; exact retOf_cell rfl (cls_pure cs)
  have lt1 : (-1152921504606846976 : Int) < (m : Int) := by omega
  have lt2 : (-1152921504606846976 : Int) < (z : Int) := by omega
  have lt3 : (z : Int) ≤ sizeLine := small_m (by omega)
  have lt4 : (1 : Int) < (m : Int) := by omega
  have ec : cls [] = [] := rfl
  rw [ec] at r3
  simp only [vi_cons, vi_nil] at r2
  refine ⟨cs, b3, o3, g, l, ?_⟩
  have st : b_law_claims N = sCons (sPar 2 3 (eLive (fLst aNil)) (eFn (m_law_mixed N) (aCons (eVar 0) (aCons (eDead (fRange (eVar 1))) aNil)))) (sCons (sFor (iRange1 (eIf (tVal (eOp opGt (eVar 1) (eC (.int 1)))) (eFn (m_law_one N) (aCons (eVar 0) (aCons (eDead (fLst (aCons (eC (.int 3)) (aCons (eC (.int 2)) (aCons (eC (.int 5)) (aCons (eC (.int 1)) (aCons (eC (.int 8)) (aCons (eC (.int 0)) aNil)))))))) aNil))) (eC (.int 0)))) (FM.gName 4) (clmBody N)) (sCons (sRet (eVar 2)) sNil)) := rfl
  have st2 : m_law_claims N = mkFn 6 2 (b_law_claims N) := rfl
  rw [st2, st]
  rw [rangeV_rg] at r3
  have sm := small_m (show m < 100 by omega)
  simp [mkFn, r1, lt1, sm, rangeV_rg, r2, lt2, lt3, lt4, r3, rc]
end FT

set_option autoImplicit false
/-! all orders -/
namespace FT
open PySem PySem.Spec PyProof.Rows L2 FM
def ord (o : List Int) : Val := .tup (vi o)
def ords (os : List (List Int)) : List Val := os.map ord
theorem ords_pure (os : List (List Int)) : pureAll (ords os) = true := pureAll_of fun x hx => by
  obtain ⟨c, _, rfl⟩ := List.mem_map.mp hx
  simp [ord, FM.pure]
def longer (m : Nat) (o : List Int) : List (List Int) := ((rg m).filter fun i => !decide (i ∈ o)).map fun i => o ++ [i]
def nextO (m : Nat) (os : List (List Int)) : List (List Int) := os.flatMap (longer m)
def allO (m : Nat) : Nat → List (List Int)
  | 0 => [[]]
  | t + 1 => nextO m (allO m t)
theorem longer_len (m : Nat) (o : List Int) : (longer m o).length ≤ m := by
  unfold longer
  rw [List.length_map]
  exact Nat.le_trans (List.length_filter_le _ _) (by rw [rg_len]; exact Nat.le_refl _)
theorem nextO_len (m : Nat) : ∀ os : List (List Int), (nextO m os).length ≤ os.length * m
  | [] => by simp [nextO]
  | o :: os => by
    have h1 := longer_len m o
    have h2 := nextO_len m os
    have : nextO m (o :: os) = longer m o ++ nextO m os := by simp [nextO]
    rw [this, List.length_append, List.length_cons, Nat.succ_mul]
    omega
theorem mem_longer {m : Nat} {o p : List Int} : p ∈ longer m o ↔ ∃ i, i ∈ rg m ∧ i ∉ o ∧ p = o ++ [i] := by
  unfold longer
  simp only [List.mem_map, List.mem_filter, Bool.not_eq_true', decide_eq_false_iff_not]
  exact ⟨fun ⟨i, ⟨h1, h2⟩, e⟩ => ⟨i, h1, h2, e.symm⟩, fun ⟨i, h1, h2, e⟩ => ⟨i, ⟨h1, h2⟩, e.symm⟩⟩
theorem mem_allO {m : Nat} : ∀ {t : Nat} {o : List Int}, o ∈ allO m t ↔ o.length = t ∧ o.Nodup ∧ ∀ x ∈ o, x ∈ rg m
  | 0, o => by
    simp only [allO, List.mem_singleton]
    constructor
    · rintro rfl; simp
    · rintro ⟨h, _⟩; exact List.length_eq_zero_iff.mp h
  | t + 1, o => by
    simp only [allO, nextO, List.mem_flatMap]
    constructor
    · rintro ⟨p, hp, ho⟩
      obtain ⟨i, hi, hn, rfl⟩ := mem_longer.mp ho
      obtain ⟨h1, h2, h3⟩ := mem_allO.mp hp
      refine ⟨by simp [h1], List.nodup_append.mpr ⟨h2, by simp, fun a ha b hb e => hn (by rw [List.mem_singleton.mp hb] at e; exact e ▸ ha)⟩, fun x hx => ?_⟩
      rcases List.mem_append.mp hx with q | q
      · exact h3 x q
      · rw [List.mem_singleton.mp q]; exact hi
    · rintro ⟨h1, h2, h3⟩
      have hne : o ≠ [] := fun e => by rw [e] at h1; cases h1
      have e := List.dropLast_concat_getLast hne
      have nd := h2
      rw [← e] at nd
      obtain ⟨n1, _, n3⟩ := List.nodup_append.mp nd
      refine ⟨o.dropLast, mem_allO.mpr ⟨by rw [List.length_dropLast, h1]; rfl, n1, fun x hx => h3 x ((List.dropLast_sublist o).subset hx)⟩, mem_longer.mpr ⟨o.getLast hne, h3 _ (List.getLast_mem hne), fun q => n3 _ q _ (List.mem_singleton.mpr rfl) rfl, e.symm⟩⟩
theorem len_sub : ∀ {a b : List Int}, a.Nodup → (∀ x ∈ a, x ∈ b) → a.length ≤ b.length
  | [], _, _, _ => Nat.zero_le _
  | x :: a, b, nd, h => by
    obtain ⟨n1, n2⟩ := List.nodup_cons.mp nd
    have hx := h x List.mem_cons_self
    have := len_sub (a := a) (b := b.erase x) n2 fun y hy => (List.mem_erase_of_ne (fun e : y = x => n1 (e ▸ hy))).mpr (h y (List.mem_cons_of_mem _ hy))
    have hl := List.length_erase_of_mem hx
    have hp := List.length_pos_of_mem hx
    rw [List.length_cons]; omega
theorem perm_of_len {a b : List Int} (na : a.Nodup) (nb : b.Nodup) (h : ∀ x ∈ a, x ∈ b) (hl : b.length ≤ a.length) : a.Perm b := by
  refine (List.perm_ext_iff_of_nodup na nb).mpr fun x => ⟨h x, fun hx => Classical.byContradiction fun hn => ?_⟩
  have := len_sub (a := x :: a) (b := b) (List.nodup_cons.mpr ⟨hn, na⟩) fun y hy => by
    rcases List.mem_cons.mp hy with e | hy
    · rw [e]; exact hx
    · exact h y hy
  rw [List.length_cons] at this; omega
theorem allO_perm {m : Nat} {o : List Int} : o ∈ allO m m ↔ o.Perm (rg m) := by
  rw [mem_allO]
  constructor
  · rintro ⟨h1, h2, h3⟩
    exact perm_of_len h2 (rg_nodup m) h3 (by rw [rg_len, h1]; exact Nat.le_refl _)
  · intro p
    exact ⟨by rw [p.length_eq, rg_len], p.nodup_iff.mpr (rg_nodup m), fun x hx => p.mem_iff.mp hx⟩
theorem asQ_more {fr ex : List Cell} {s : S} {V : Val} {xs : List Val} (h : asQ (fr :: s) V = some xs) : asQ ((fr ++ ex) :: s) V = some xs := by
  cases V <;> simp only [asQ, asL] at h ⊢ <;> try exact h
  rename_i f n
  split at h
  · rename_i ys e
    cases h
    have : lk ((fr ++ ex) :: s) f n = some (.lst xs) := by
      by_cases hf : f = s.length
      · subst hf
        rw [lk_top] at e ⊢
        exact (List.getElem?_append_left (List.getElem?_eq_some_iff.mp e).1).trans e
      · have e' : (if f = s.length then fr[n]? else lk s f n) = some (.lst xs) := e
        rw [if_neg hf] at e'
        show (if f = s.length then (fr ++ ex)[n]? else lk s f n) = _
        rw [if_neg hf]; exact e'
    rw [this]
  · cases h
def exBody : Sx := (sCons (sExpr (eExtend (eVar 3) (fComp (iRange1 (eVar 0)) [5] (FM.gName 5) (tVal (eOp opNotIn (eVar 5) (eVar 4))) (eOp opAdd (eVar 4) (eTup (aCons (eVar 5) aNil))))))
    sNil)
theorem ext_loop {m : Nat} (hm : m ≤ 4) (fr : List Cell) (s : S) (V : Val) (all : List Val) (hV : asQ (fr :: s) V = some all) (t : Option Val) : ∀ (os acc : List (List Int)) (y : Option Val), acc.length + os.length * 4 ≤ 5000 → (∀ o ∈ os, o.length ≤ 10) →
    ∃ y' : Option Val, forL (still V all) (FM.gName 4) exBody (ords os) [some (.int m), some V, t, some (.ref s.length fr.length), y, none] ((fr ++ [.lst (ords acc)]) :: s)
      = .nx [some (.int m), some V, t, some (.ref s.length fr.length), y', none] ((fr ++ [.lst (ords (acc ++ nextO m os))]) :: s)
  | [], acc, y, hl, hb => by
    have k : still V all ((fr ++ [.lst (ords acc)]) :: s) = true := still_of (asQ_more hV)
    exact ⟨y, by simp [ords, forL, nextO]; simpa [ords] using k⟩
  | o :: os, acc, y, hl, hb => by
    simp only [List.length_cons] at hl
    have k : still V all ((fr ++ [.lst (ords acc)]) :: s) = true := still_of (asQ_more hV)
    have ll := longer_len m o
    obtain ⟨y', r⟩ := ext_loop hm fr s V all hV t os (acc ++ longer m o) (some (ord o)) (by rw [List.length_append]; omega) fun p hp => hb p (List.mem_cons_of_mem _ hp)
    refine ⟨y', ?_⟩
    have l2 : lk ((fr ++ [.lst (ords acc)]) :: s) s.length fr.length = some (.lst (ords acc)) := by rw [lk_top]; simp
    have u2 : ∀ d, up ((fr ++ [.lst (ords acc)]) :: s) s.length fr.length d = (fr ++ [d]) :: s := fun d => by rw [up_top]; simp
    have comp : compL (fun _ => true) (FM.gName 5) (tVal (eOp opNotIn (eVar 5) (eVar 4))) (eOp opAdd (eVar 4) (eTup (aCons (eVar 5) aNil))) [some (.int m), some V, t, some (.ref s.length fr.length), some (ord o), none] (vi (rg m)) [] ((fr ++ [.lst (ords acc)]) :: s)
        = .ok (ords (longer m o)) ((fr ++ [.lst (ords acc)]) :: s) := by
      have := compL_pick (keep := fun _ => true) (g := FM.gName 5) (t := tVal (eOp opNotIn (eVar 5) (eVar 4))) (e := eOp opAdd (eVar 4) (eTup (aCons (eVar 5) aNil))) (ρ := [some (.int m), some V, t, some (.ref s.length fr.length), some (ord o), none]) (s := (fr ++ [.lst (ords acc)]) :: s)
        Val.int (fun i => !decide (i ∈ o)) (fun i => ord (o ++ [i])) rfl (rg m) fun i hi => ⟨_, rfl, by
          have := opNotIn_vi (s := (fr ++ [.lst (ords acc)]) :: s) (v := ord o) (l := o) rfl i
          simp [this], fun _ => by
          have sz : o.length + 1 ≤ sizeLine := by have := hb o List.mem_cons_self; unfold sizeLine; omega
          simp [ord, opAdd, sz]⟩
      rw [show ords (longer m o) = ((rg m).filter fun i => !decide (i ∈ o)).map fun i => ord (o ++ [i]) by simp [ords, longer, Function.comp_def]]
      exact this
    have lt1 : (-1152921504606846976 : Int) < (m : Int) := by omega
    have sm := small_m (show m < 100 by omega)
    have c1 : (ords acc).length + (ords (longer m o)).length ≤ sizeLine := by unfold ords sizeLine; rw [List.length_map, List.length_map]; omega
    have il : isL ((fr ++ [.lst (ords acc)]) :: s) (.ref s.length fr.length) = true := by simp only [isL, asL, l2]; rfl
    have ch : chg ((fr ++ [.lst (ords acc)]) :: s) (.ref s.length fr.length) (fun xs => if xs.length + (ords (longer m o)).length ≤ sizeLine then some (xs ++ ords (longer m o)) else none) (ords (longer m o))
        = .ok .non ((fr ++ [.lst (ords (acc ++ longer m o))]) :: s) := by
      simp only [chg, l2]
      rw [if_pos c1]
      simp only
      rw [if_pos (.inl (by simp)), u2]
      simp [ords]
    have en : acc ++ nextO m (o :: os) = acc ++ longer m o ++ nextO m os := by simp [nextO]
    rw [en]
    have eo : ords (o :: os) = ord o :: ords os := rfl
    rw [eo]
    simp only [exBody] at r ⊢
    simp [forL, k, il, lt1, sm, rangeV_rg, FM.wipe, comp, ch]
    simpa using r

theorem nil_ords (os : List (List Int)) : os ++ nextO 0 [] = os := by simp [nextO]
def IsO (s : S) (fr : List Cell) (V : Val) (os : List (List Int)) : Prop := V = .lst (ords os) ∨ ∃ k : Nat, V = .ref s.length k ∧ fr[k]? = some (.lst (ords os))
theorem IsO.asQ {s : S} {fr : List Cell} {V : Val} {os : List (List Int)} (h : IsO s fr V os) : FM.asQ (fr :: s) V = some (ords os) := by
  rcases h with rfl | ⟨k, rfl, e⟩
  · rfl
  · simp only [FM.asQ, asL]
    rw [lk_top, e]
def outBody : Sx := (sCons (sAsg (eLive (fLst aNil)) (FM.gName 3)) (sCons (sFor (iSeq (eVar 1)) (FM.gName 4) exBody) (sCons (sAsg (eVar 3) (FM.gName 1)) sNil)))
theorem allO_len (m : Nat) (hm : m ≤ 4) : ∀ t : Nat, (allO m t).length ≤ 4 ^ t
  | 0 => by simp [allO]
  | t + 1 => by
    have h1 := nextO_len m (allO m t)
    have h2 := allO_len m hm t
    have h3 : (allO m t).length * m ≤ 4 ^ t * 4 := Nat.mul_le_mul h2 hm
    rw [Nat.pow_succ]
    exact Nat.le_trans h1 h3
theorem out_loop {m : Nat} (hm : m ≤ 4) (s : S) : ∀ (xs : List Val) (t : Nat) (fr : List Cell) (V : Val) (a b c : Option Val), IsO s fr V (allO m t) → t + xs.length ≤ 4 →
    ∃ (fr' : List Cell) (V' : Val) (a' b' c' : Option Val), IsO s fr' V' (allO m (t + xs.length)) ∧
      forL (fun _ => true) (FM.gName 2) outBody xs [some (.int m), some V, a, b, c, none] (fr :: s) = .nx [some (.int m), some V', a', b', c', none] (fr' :: s)
  | [], t, fr, V, a, b, c, h, hl => ⟨fr, V, a, b, c, h, by simp [forL]⟩
  | x :: xs, t, fr, V, a, b, c, h, hl => by
    simp only [List.length_cons] at hl
    have hq := h.asQ
    have hn := allO_len m hm t
    have ht : 4 ^ t ≤ 64 := by
      have : t ≤ 3 := by omega
      calc 4 ^ t ≤ 4 ^ 3 := Nat.pow_le_pow_right (by decide) this
        _ = 64 := rfl
    obtain ⟨y', r⟩ := ext_loop hm fr s V (ords (allO m t)) hq (some x) (allO m t) [] c (by simp; omega) fun o ho => by
      have := (mem_allO.mp ho).1; omega
    have hi : IsO s (fr ++ [.lst (ords (nextO m (allO m t)))]) (.ref s.length fr.length) (allO m (t + 1)) := .inr ⟨fr.length, rfl, by simp [allO]⟩
    obtain ⟨fr', V', a', b', c', h', r'⟩ := out_loop hm s xs (t + 1) _ _ (some x) (some (.ref s.length fr.length)) y' hi (by omega)
    refine ⟨fr', V', a', b', c', by rw [show t + (x :: xs).length = t + 1 + xs.length by simp; omega]; exact h', ?_⟩
    have hq' : FM.asQ ((fr ++ [.lst []]) :: s) V = some (ords (allO m t)) := asQ_more hq
    simp only [outBody] at r' ⊢
    have e0 : ords [] = [] := rfl
    rw [e0, List.nil_append] at r
    simp [forL, hq', r]
    exact r'
theorem all_orders_run (N : Nat) (s : S) {m : Nat} (hm : m ≤ 4) : ∃ r, (r = .val (.lst (ords (allO m m))) ∨ r = .cell (.lst (ords (allO m m)))) ∧ m_law_all_orders N [.int m] s = .ok r s := by
  obtain ⟨fr', V', a', b', c', h', r'⟩ := out_loop hm s (vi (rg m)) 0 [] (.lst (ords (allO m 0))) none none none (.inl rfl) (by simp [rg_len]; omega)
  have el : 0 + (vi (rg m)).length = m := by simp [rg_len]
  rw [el] at h'
  have lt1 : (-1152921504606846976 : Int) < (m : Int) := by omega
  have sm := small_m (show m < 100 by omega)
  have st : b_law_all_orders N = (sCons (sAsg (eDead (fLst (aCons (eTup aNil) aNil))) (FM.gName 1)) (sCons (sFor (iRange1 (eVar 0)) (FM.gName 2) outBody) (sCons (sRet (eVar 1)) sNil))) := rfl
  have st2 : m_law_all_orders N = mkFn 6 1 (b_law_all_orders N) := rfl
  have e0 : ords (allO m 0) = [Val.tup []] := rfl
  rw [e0] at r'
  have rt : ∃ r, (r = Ret.val (.lst (ords (allO m m))) ∨ r = .cell (.lst (ords (allO m m)))) ∧ retOf s.length fr' V' = some r := by
    rcases h' with rfl | ⟨k, rfl, e⟩
    · exact ⟨_, .inl rfl, retOf_pure (by unfold FM.pure; exact ords_pure _)⟩
    · exact ⟨_, .inr rfl, retOf_cell e (ords_pure _)⟩
  obtain ⟨r, hr, er⟩ := rt
  refine ⟨r, hr, ?_⟩
  rw [st2, st]
  simp [mkFn, lt1, sm, rangeV_rg, r', er]
end FT

set_option autoImplicit false
namespace FT
open PySem PySem.Spec PyProof.Rows L2 FM
def keptO (cs : List Cl) (m : Nat) : List (List Int) := (allO m m).filter fun o => (cs.filter fun d => !inOrd o d).isEmpty
def againstO (cs : List Cl) (c : Cl) (m : Nat) : List (List Int) := (keptO cs m).filter fun o => !inOrd o c
theorem mem_kept {cs : List Cl} {m : Nat} {o : List Int} : o ∈ keptO cs m ↔ o.Perm (rg m) ∧ ∀ d ∈ cs, inOrd o d = true := by
  unfold keptO
  rw [List.mem_filter, allO_perm, List.isEmpty_iff, List.filter_eq_nil_iff]
  simp
theorem can_kept {cs : List Cl} {m : Nat} (hm : m < 100) (hg : ∀ c ∈ cs, Good m c) : (lb cs [] m).isEmpty = !(keptO cs m).isEmpty := by
  apply Bool.eq_iff_iff.mpr
  rw [can_iff hm fun d hd => good_in (hg d hd)]
  simp only [Bool.not_eq_true', List.isEmpty_eq_false_iff]
  constructor
  · rintro ⟨o, h⟩ e
    have := mem_kept.mpr h
    rw [e] at this; cases this
  · intro h
    obtain ⟨o, ho⟩ := List.exists_mem_of_ne_nil _ h
    exact ⟨o, mem_kept.mp ho⟩
theorem fol_kept {cs : List Cl} {m : Nat} (hm : m < 100) (hg : ∀ c ∈ cs, Good m c) {c : Cl} (gc : Good m c) : fol cs c m = (againstO cs c m).isEmpty := by
  apply Bool.eq_iff_iff.mpr
  rw [fol_iff hm hg gc, List.isEmpty_iff]
  unfold againstO
  rw [List.filter_eq_nil_iff]
  constructor
  · intro h o ho
    have := mem_kept.mp ho
    simp [h o this.1 this.2]
  · intro h o p ho
    have := h o (mem_kept.mpr ⟨p, ho⟩)
    simpa using this
theorem ords_isEmpty (os : List (List Int)) : (ords os).isEmpty = os.isEmpty := by cases os <;> rfl
theorem cls_isEmpty (os : List Cl) : (cls os).isEmpty = os.isEmpty := by cases os <;> rfl
theorem by_all_run {s : S} {C : Val} {cs : List Cl} {m : Nat} {c : Cl} (hC : asQ s C = some (cls cs)) (hm : m ≤ 4) (hg : ∀ d ∈ cs, Good m d) (gc : Good m c) : m_law_is_by_all 100 [.int m, C, cl c] s = .ok (.val (.bl true)) s := by
  have hC' : asQ ([] :: s) C = some (cls cs) := asQ_push hC
  obtain ⟨ra, hra, ea⟩ := all_orders_run 100 ([] :: s) hm
  have inner : ∀ (o : List Int) (ρ : FM.Env), o ∈ allO m m → ρ[5]? = some (some (ord o)) → 6 < ρ.length →
      compL (still C (cls cs)) (FM.gName 6) (tNot (tVal (eFn (m_law_in_order 100) (aCons (eVar 5) (aCons (eVar 6) aNil))))) (eVar 6) ρ (cls cs) [] ([] :: s) = .ok (cls (cs.filter fun d => !inOrd o d)) ([] :: s) := by
    intro o ρ ho h5 h6
    have p := allO_perm.mp ho
    exact compL_pick cl (fun d => !inOrd o d) cl (still_of hC') cs fun d hd => ⟨ρ.set 6 (some (cl d)), rfl, by
      have pin := perm_in p (good_in (hg d hd))
      have r := in_order_run 100 (s := [] :: s) (O := ord o) (o := o) (.inr rfl) pin.1 pin.2 (hg d hd).ne
      simp [h6, h5, r], fun _ => by simp [h6]⟩
  have comp1 : compL (still (.lst (ords (allO m m))) (ords (allO m m))) (FM.gName 5) (tVal (eOp opEq (eDead (fComp (iSeq (eVar 1)) [6] (FM.gName 6) (tNot (tVal (eFn (m_law_in_order 100) (aCons (eVar 5) (aCons (eVar 6) aNil))))) (eVar 6))) (eDead (fLst aNil)))) (eVar 5)
      [some (.int m), some C, some (cl c), none, none, none, none] (ords (allO m m)) [] ([] :: s) = .ok (ords (keptO cs m)) ([] :: s) :=
    compL_pick ord (fun o => (cs.filter fun d => !inOrd o d).isEmpty) ord rfl (allO m m) fun o ho => ⟨_, rfl, by
      have e := opEq_nil (s := [] :: s) (l := cls (cs.filter fun d => !inOrd o d)) (cls_pure _)
      rw [cls_isEmpty] at e
      simp [hC', FM.wipe, inner o _ ho, e], fun _ => by simp⟩
  have comp2 : compL (still (.lst (ords (keptO cs m))) (ords (keptO cs m))) (FM.gName 5) (tNot (tVal (eFn (m_law_in_order 100) (aCons (eVar 5) (aCons (eVar 2) aNil))))) (eVar 5)
      [some (.int m), some C, some (cl c), some (.lst (ords (keptO cs m))), none, none, none] (ords (keptO cs m)) [] ([] :: s) = .ok (ords (againstO cs c m)) ([] :: s) :=
    compL_pick ord (fun o => !inOrd o c) ord rfl (keptO cs m) fun o ho => ⟨_, rfl, by
      have pin := perm_in (mem_kept.mp ho).1 (good_in gc)
      have r := in_order_run 100 (s := [] :: s) (O := ord o) (o := o) (.inr rfl) pin.1 pin.2 gc.ne
      simp [r], fun _ => by simp⟩
  have r1 := can_run (s := [] :: s) hC' (show m < 100 by omega)
  have r2 := fol_run (s := [] :: s) hC' (show m < 100 by omega) c
  rw [can_kept (by omega) hg] at r1
  rw [fol_kept (by omega) hg gc] at r2
  have e1 := opNe_nil (s := [] :: s) (l := ords (keptO cs m)) (ords_pure _)
  have e2 := opEq_nil (s := [] :: s) (l := ords (againstO cs c m)) (ords_pure _)
  rw [ords_isEmpty] at e1 e2
  have ra2 := alike_bls2 100 ([] :: s) (!(keptO cs m).isEmpty) (againstO cs c m).isEmpty
  rcases hra with rfl | rfl
  · simp [m_law_is_by_all, b_law_is_by_all, mkFn, ea, FM.wipe, comp1, comp2, -List.isEmpty_iff, r1, r2, e1, e2, ra2]
  · simp [m_law_is_by_all, b_law_is_by_all, mkFn, ea, FM.wipe, comp1, comp2, -List.isEmpty_iff, r1, r2, e1, e2, ra2]
end FT

set_option autoImplicit false
namespace FT
open PySem PySem.Spec PyProof.Rows L2 FM
structure Wd (m : Nat) (c : Cl) : Prop where
  i : c.1 ∈ rg m
  l : ∀ x ∈ c.2, x ∈ rg m
  ne : c.2 ≠ []
  len : c.2.length ≤ 41
theorem Good.wd {m : Nat} {c : Cl} (g : Good m c) : Wd m c := ⟨(good_in g).1, (good_in g).2, g.ne, by have := g.len; omega⟩
theorem ix_head {s : S} {x : Int} {l : List Int} : opIx s (.tup (vi (x :: l))) (.int 0) = some (.int x) := by
  simp only [opIx, asQ, vi_len]
  rw [show FM.ixN (x :: l).length 0 = some 0 by simp [FM.ixN]]
  rfl
theorem ix_headL {s : S} {x : Int} {l : List Int} : opIx s (.lst (vi (x :: l))) (.int 0) = some (.int x) := by
  simp only [opIx, asQ, asL, vi_len]
  rw [show FM.ixN (x :: l).length 0 = some 0 by simp [FM.ixN]]
  rfl
theorem cut_tail (x : Int) (l : List Int) : cutL (vi (x :: l)) (some 1) none = vi l := by
  simp [cutL, FM.sIx]
  rw [List.take_of_length_le (by simp)]
def swp (o : List Int) (c : Cl) : Cl := if inOrd o c = true then c else (c.2.headD 0, c.1 :: c.2.tail)
def mrBody (N : Nat) : Sx := (sCons (sAsg (eFn (m_law_claim N) (aCons (eVar 0) (aCons (eVar 1) aNil))) (FM.gName 5))
    (sCons (sExpr (eChg cAppend (eVar 3) (aCons (eIf (tVal (eFn (m_law_in_order N) (aCons (eVar 2) (aCons (eVar 5) aNil)))) (eVar 5) (eTup (aCons (eOp opIx (eOp opIx (eVar 5) (eC (.int 1))) (eC (.int 0))) (aCons (eOp opAdd (eTup (aCons (eOp opIx (eVar 5) (eC (.int 0))) aNil)) (eSlT (eOp opIx (eVar 5) (eC (.int 1))) (oSome (eC (.int 1))) oNone)) aNil)))) aNil)))
    sNil))
theorem mr_loop (N : Nat) {m : Nat} (h2 : 2 ≤ m) (hm : m ≤ 40) {o : List Int} (po : o.Perm (rg m)) (w2 w6 w7 w8 : Option Val) : ∀ (xs : List Val) (cs : List Cl) (s : S) (y z : Option Val), HB s → (∀ c ∈ cs, Wd m c) → cs.length + xs.length ≤ 40 →
    ∃ (cs' : List Cl) (b : BagT) (y' z' : Option Val), b.Ok ∧ (∀ c ∈ cs', Wd m c) ∧ cs'.length ≤ 40 ∧
      forL (fun _ => true) (FM.gName 4) (mrBody N) xs [some (.ref 0 0), some (.int m), some (.lst (vi o)), some (.ref s.length 0), y, z, w6, w7, w8] ([.lst (cls cs)] :: s)
        = .nx [some (.ref 0 0), some (.int m), some (.lst (vi o)), some (.ref s.length 0), y', z', w6, w7, w8] ([.lst (cls cs')] :: FT.sb s b)
  | [], cs, s, y, z, h, hg, hl => by
    obtain ⟨b, ob, e⟩ := h.self
    exact ⟨cs, b, y, z, ob, hg, by simpa using hl, by rw [e]; simp [forL]⟩
  | x :: xs, cs, s, y, z, h, hg, hl => by
    simp only [List.length_cons] at hl
    obtain ⟨c, b1, o1, gc, r1⟩ := claim_run N (h.push [.lst (cls cs)]) h2 hm
    rw [sb_push h] at r1
    have h1 := h.sb o1
    have el : (FT.sb s b1).length = s.length := sb_len s b1
    have pin := perm_in po (good_in gc)
    have ri := in_order_run N (s := [.lst (cls cs)] :: FT.sb s b1) (O := .lst (vi o)) (o := o) (.inl rfl) pin.1 pin.2 gc.ne
    have il : isL ([.lst (cls cs)] :: FT.sb s b1) (.ref s.length 0) = true := by
      simp only [isL, asL, lk_top' (fr := [Cell.lst (cls cs)]) (n := 0) (sb_len s b1).symm]; rfl
    have ap2 : ∀ d : Cl, chg ([.lst (cls cs)] :: FT.sb s b1) (.ref s.length 0) (cAppend ([.lst (cls cs)] :: FT.sb s b1) [cl d]) [cl d] = .ok .non ([.lst (cls (cs ++ [d]))] :: FT.sb s b1) := fun d => by
      have l2 : lk ([.lst (cls cs)] :: FT.sb s b1) s.length 0 = some (.lst (cls cs)) := lk_top' el.symm
      have c1 : (cls cs).length < sizeLine := by unfold cls sizeLine; rw [List.length_map]; omega
      have cl1 : cls cs ++ [cl d] = cls (cs ++ [d]) := by simp [cls]
      have ca : cAppend ([.lst (cls cs)] :: FT.sb s b1) [cl d] (cls cs) = some (cls (cs ++ [d])) := by
        show (if (cls cs).length < sizeLine then some (cls cs ++ [cl d]) else none) = _
        rw [if_pos c1, cl1]
      simp only [chg, l2, ca]
      rw [if_pos (.inl (by simp [el])), up_top' el.symm]
      rfl
    obtain ⟨k, r, e2⟩ : ∃ k r, c.2 = k :: r := by
      cases e : c.2 with
      | nil => exact absurd e gc.ne
      | cons k r => exact ⟨k, r, rfl⟩
    have wd : Wd m (swp o c) := by
      unfold swp
      split
      · exact gc.wd
      · have g := gc.wd
        rw [e2]
        refine ⟨g.l k (by rw [e2]; exact List.mem_cons_self), fun y hy => ?_, by simp, by have := gc.len; rw [e2] at this; simpa using Nat.le_succ_of_le this⟩
        rcases List.mem_cons.mp hy with e | hy
        · rw [e]; exact g.i
        · exact g.l y (by rw [e2]; exact List.mem_cons_of_mem _ hy)
    obtain ⟨cs', b', y', z', ob, g', l', r'⟩ := mr_loop N h2 hm po w2 w6 w7 w8 xs (cs ++ [swp o c]) (FT.sb s b1) (some x) (some (cl c)) h1 (fun d hd => by
      rcases List.mem_append.mp hd with q | q
      · exact hg d q
      · rw [List.mem_singleton.mp q]; exact wd) (by simp; omega)
    rw [sb_sb, el] at r'
    refine ⟨cs', b', y', z', ob, g', l', ?_⟩
    have i0 : ∀ s, opIx s (cl c) (.int 0) = some (.int c.1) := fun s => ix0 s c
    have i1 : ∀ s, opIx s (cl c) (.int 1) = some (.tup (vi (k :: r))) := fun s => by rw [ix1, e2]
    have ih : ∀ s, opIx s (.tup (vi (k :: r))) (.int 0) = some (.int k) := fun s => ix_head
    have ct := cut_tail k r
    have sz : [Val.int c.1].length + (vi r).length ≤ sizeLine := by have := gc.len; rw [e2] at this; simp at this; unfold sizeLine; rw [vi_len]; simp; omega
    have ad : ∀ s, opAdd s (.tup [.int c.1]) (.tup (vi r)) = some (.tup (.int c.1 :: vi r)) := fun s => by
      show (if [Val.int c.1].length + (vi r).length ≤ sizeLine then some (Val.tup ([.int c.1] ++ vi r)) else none) = _
      rw [if_pos sz]; rfl
    cases hio : inOrd o c with
    | true =>
      rw [hio] at ri
      have es : swp o c = c := by unfold swp; rw [if_pos hio]
      rw [es] at r'
      simp only [mrBody] at r' ⊢
      simp [forL, r1, il, ri, ap2]
      exact r'
    | false =>
      rw [hio] at ri
      have es : swp o c = (k, c.1 :: r) := by unfold swp; rw [if_neg (by rw [hio]; decide), e2]; rfl
      rw [es] at r'
      have a2 := ap2 (k, c.1 :: r)
      have ecl : cl (k, c.1 :: r) = .tup [.int k, .tup (.int c.1 :: vi r)] := rfl
      rw [ecl] at a2
      simp only [mrBody] at r' ⊢
      simp only [vi_cons] at i1 ih ct
      simp [forL, r1, il, ri, i0, i1, ih, ct, ad, a2]
      exact r'
end FT

set_option autoImplicit false
namespace FT
open PySem PySem.Spec PyProof.Rows L2 FM
def mr2Body : Sx := (sCons (sAsg (eFn (m_law_claim 100) (aCons (eVar 0) (aCons (eVar 1) aNil))) (FM.gName 5))
    (sCons (sIf (tNot (tVal (eFn (m_law_alike 100) (aCons (eFn (m_follows 100) (aCons (eVar 1) (aCons (eVar 3) (aCons (eVar 5) aNil)))) (aCons (eFn (m_law_follows 100) (aCons (eVar 1) (aCons (eVar 3) (aCons (eVar 5) aNil)))) aNil))))) (sCons (sRet (eC (.bl false)))
    sNil) sNil)
    sNil))
theorem mr2_loop {m : Nat} (h2 : 2 ≤ m) (hm : m ≤ 40) {cs : List Cl} {fr : List Cell} {n : Nat} (hfr : fr[n]? = some (.lst (cls cs))) (w2 w6 w7 w8 : Option Val) : ∀ (xs : List Val) (s : S) (y z : Option Val), HB s →
    ∃ (b : BagT) (y' z' : Option Val), b.Ok ∧
      forL (fun _ => true) (FM.gName 4) mr2Body xs [some (.ref 0 0), some (.int m), w2, some (.ref s.length n), y, z, w6, w7, w8] (fr :: s)
        = .nx [some (.ref 0 0), some (.int m), w2, some (.ref s.length n), y', z', w6, w7, w8] (fr :: FT.sb s b)
  | [], s, y, z, h => by
    obtain ⟨b, ob, e⟩ := h.self
    exact ⟨b, y, z, ob, by rw [e]; simp [forL]⟩
  | x :: xs, s, y, z, h => by
    obtain ⟨c, b1, o1, gc, r1⟩ := claim_run 100 (h.push fr) h2 hm
    rw [sb_push h] at r1
    have h1 := h.sb o1
    have el : (FT.sb s b1).length = s.length := sb_len s b1
    have hC : asQ (fr :: FT.sb s b1) (.ref s.length n) = some (cls cs) := by
      simp only [asQ, asL, lk_top' (fr := fr) (n := n) el.symm, hfr]
    have f1 := fol_run hC (show m < 100 by omega) c
    have f2 := lfol_run hC (show m < 100 by omega) c
    have al := alike_bl 100 (fr :: FT.sb s b1) (fol cs c m)
    obtain ⟨b', y', z', ob, r'⟩ := mr2_loop h2 hm hfr w2 w6 w7 w8 xs (FT.sb s b1) (some x) (some (cl c)) h1
    rw [sb_sb, el] at r'
    refine ⟨b', y', z', ob, ?_⟩
    simp only [mr2Body] at r' ⊢
    simp [forL, r1, f1, f2, al]
    exact r'
/-- the set of a claim's lot, in order -/
def tidy (c : Cl) : Cl := (c.1, sortD c.2)
theorem Wd.tidy {m : Nat} {c : Cl} (g : Wd m c) : Wd m (tidy c) := by
  refine ⟨g.i, fun x hx => g.l x (sortD_mem.mp hx), fun e => ?_, Nat.le_trans (sortD_len c.2) g.len⟩
  obtain ⟨k, hk⟩ := List.exists_mem_of_ne_nil _ g.ne
  have : k ∈ sortD c.2 := sortD_mem.mpr hk
  rw [show sortD c.2 = [] from e] at this; cases this
theorem many_run {s : S} (h : HB s) : ∃ b : BagT, b.Ok ∧ m_law_are_many_right 100 [.ref 0 0] s = .ok (.val (.bl true)) (FT.sb s b) := by
  obtain ⟨k, hk, b1, o1, r1⟩ := one_run 100 (h.push []) (X := .lst (vi [16, 24, 20])) (fun z => by cases z) rfl (pureAll_vi _) (by simp) (by simp)
  rw [sb_push h] at r1
  have hk' : ∃ m : Nat, k = .int m ∧ 2 ≤ m ∧ m ≤ 40 := by
    simp only [vi_cons, vi_nil, List.mem_cons, List.not_mem_nil, or_false] at hk
    rcases hk with e | e | e
    · exact ⟨16, e, by omega, by omega⟩
    · exact ⟨24, e, by omega, by omega⟩
    · exact ⟨20, e, by omega, by omega⟩
  obtain ⟨m, rfl, h2, hm⟩ := hk'
  have h1 := h.sb o1
  obtain ⟨ys, b2, o2, p2, r2⟩ := mixed_run 100 (h1.push []) (X := .lst (vi (rg m))) (fun z => by cases z) rfl (pureAll_vi _) (by rw [vi_len, rg_len]; omega)
  rw [sb_push h1, sb_sb] at r2
  obtain ⟨o, po, rfl⟩ := perm_ints p2
  have hh2 := h.sb o2
  have el2 : (FT.sb s b2).length = s.length := sb_len s b2
  obtain ⟨k, hk, b3, o3, r3⟩ := one_run 100 (hh2.push [.lst []]) (X := .lst (vi [14, 24, 9])) (fun z => by cases z) rfl (pureAll_vi _) (by simp) (by simp)
  rw [sb_push hh2, sb_sb] at r3
  have hk' : ∃ z : Nat, k = .int z ∧ z ≤ 40 := by
    simp only [vi_cons, vi_nil, List.mem_cons, List.not_mem_nil, or_false] at hk
    rcases hk with e | e | e
    · exact ⟨14, e, by omega⟩
    · exact ⟨24, e, by omega⟩
    · exact ⟨9, e, by omega⟩
  obtain ⟨z, rfl, hz⟩ := hk'
  have hh3 := h.sb o3
  have el3 : (FT.sb s b3).length = s.length := sb_len s b3
  obtain ⟨cs, b4, y4, z4, o4, g4, l4, r4⟩ := mr_loop 100 h2 hm po none none none none (vi (rg z)) [] (FT.sb s b3) none none hh3 (by simp) (by simp [rg_len]; omega)
  rw [sb_sb, el3] at r4
  have hh4 := h.sb o4
  have el4 : (FT.sb s b4).length = s.length := sb_len s b4
  -- tidy
  have hq1 : asQ ([.lst (cls cs)] :: FT.sb s b4) (.ref s.length 0) = some (cls cs) := by simp only [asQ, asL, lk_top' (fr := [Cell.lst (cls cs)]) (n := 0) el4.symm]; rfl
  have c1 : compL (still (.ref s.length 0) (cls cs)) (FM.gTup [FM.gName 7, FM.gName 8]) FM.tYes (eTup (aCons (eVar 7) (aCons (eTupleF (fSortSetT (eVar 8))) aNil))) [some (.ref 0 0), some (.int m), some (.lst (vi o)), some (.ref s.length 0), y4, z4, none, none, none] (cls cs) [] ([.lst (cls cs)] :: FT.sb s b4)
      = .ok (cs.map fun c => cl (tidy c)) ([.lst (cls cs)] :: FT.sb s b4) :=
    compL_all cl _ (still_of hq1) cs fun c hc => ⟨_, rfl, by
      have := (g4 c hc).len
      have l64 : c.2.length < 64 := by omega
      simp [asT, l64, cl, tidy]
      rfl⟩
  have ec1 : (cs.map fun c => cl (tidy c)) = cls (cs.map tidy) := by simp [cls, Function.comp_def]
  rw [ec1] at c1
  have hq2 : asQ ([.lst (cls cs), .lst (cls (cs.map tidy))] :: FT.sb s b4) (.ref s.length 1) = some (cls (cs.map tidy)) := by simp only [asQ, asL, lk_top' (fr := [Cell.lst (cls cs), .lst (cls (cs.map tidy))]) (n := 1) el4.symm]; rfl
  have wd2 : ∀ c ∈ cs.map tidy, Wd m c := fun c hc => by
    obtain ⟨d, hd, rfl⟩ := List.mem_map.mp hc
    exact (g4 d hd).tidy
  generalize hcs2 : cs.map tidy = cs2 at c1 hq2 wd2
  have c2 : compL (still (.ref s.length 1) (cls cs2)) (FM.gName 5) (tVal (eFn (m_law_in_order 100) (aCons (eVar 2) (aCons (eVar 5) aNil)))) (eVar 5) [some (.ref 0 0), some (.int m), some (.lst (vi o)), some (.ref s.length 1), y4, none, none, none, none] (cls cs2) [] ([.lst (cls cs), .lst (cls cs2)] :: FT.sb s b4)
      = .ok (cls (cs2.filter fun c => inOrd o c)) ([.lst (cls cs), .lst (cls cs2)] :: FT.sb s b4) :=
    compL_pick cl (fun c => inOrd o c) cl (still_of hq2) cs2 fun c hc => ⟨_, rfl, by
      have w := wd2 c hc
      have pin := perm_in po ⟨w.i, w.l⟩
      have r := in_order_run 100 (s := [.lst (cls cs), .lst (cls cs2)] :: FT.sb s b4) (O := .lst (vi o)) (o := o) (.inl rfl) pin.1 pin.2 w.ne
      simp [r], fun _ => by simp⟩
  have wd3 : ∀ c ∈ cs2.filter fun c => inOrd o c, Wd m c := fun c hc => wd2 c (List.mem_filter.mp hc).1
  have io3 : ∀ c ∈ cs2.filter fun c => inOrd o c, inOrd o c = true := fun c hc => (List.mem_filter.mp hc).2
  have l3 : (cs2.filter fun c => inOrd o c).length ≤ 40 := Nat.le_trans (List.length_filter_le _ _) (by rw [← hcs2, List.length_map]; exact l4)
  generalize (cs2.filter fun c => inOrd o c) = cs3 at c2 wd3 io3 l3
  generalize hfr : [Cell.lst (cls cs), .lst (cls cs2), .lst (cls cs3)] = fr
  have f2 : fr[2]? = some (.lst (cls cs3)) := by rw [← hfr]; rfl
  have hq3 : ∀ b : BagT, asQ (fr :: FT.sb s b) (.ref s.length 2) = some (cls cs3) := fun b => by simp only [asQ, asL, lk_top' (fr := fr) (n := 2) (sb_len s b).symm, f2]
  have ca := can_run (hq3 b4) (show m < 100 by omega)
  have cat : (lb cs3 [] m).isEmpty = true := (can_iff (by omega) fun c hc => ⟨(wd3 c hc).i, (wd3 c hc).l⟩).mpr ⟨o, po, io3⟩
  rw [cat] at ca
  have al1 := alike_bl 100 (fr :: FT.sb s b4) true
  obtain ⟨b5, y5, z5, o5, r5⟩ := mr2_loop h2 hm f2 (some (.lst (vi o))) none none none (vi (rg 3)) (FT.sb s b4) y4 z4 hh4
  rw [sb_sb, el4] at r5
  -- ring
  have el5 : (FT.sb s b5).length = s.length := sb_len s b5
  have ol : o.length = m := by rw [po.length_eq, rg_len]
  obtain ⟨a, a1, r, eo⟩ : ∃ a a1 r, o = a :: a1 :: r := by
    match o, ol with
    | [], h => simp at h; omega
    | [_], h => simp at h; omega
    | a :: a1 :: r, _ => exact ⟨a, a1, r, rfl⟩
  obtain ⟨ez, hez⟩ : ∃ ez, o.getLast? = some ez := by rw [eo]; exact ⟨_, List.getLast?_eq_getLast (by simp)⟩
  have nd : o.Nodup := po.nodup_iff.mpr (rg_nodup m)
  have am : a ∈ rg m := po.mem_iff.mp (by rw [eo]; simp)
  have zm : ez ∈ rg m := po.mem_iff.mp (List.mem_of_getLast? hez)
  have x0 : ∀ s, opIx s (.lst (vi o)) (.int 0) = some (.int a) := fun s => by rw [eo]; exact ix_headL
  have x1 : ∀ s, opIx s (.lst (vi o)) (.int 1) = some (.int a1) := fun s => by
    rw [eo]
    simp only [opIx, asQ, asL, vi_len]
    rw [show FM.ixN (a :: a1 :: r).length 1 = some 1 by simp [FM.ixN]; omega]
    rfl
  have xz : ∀ s, opIx s (.lst (vi o)) (.int (-1)) = some (.int ez) := fun s => ix_last s hez
  generalize hring : cs3 ++ [(a, [ez]), (ez, [a])] = ring
  have hqr : cls cs3 ++ [cl (a, [ez]), cl (ez, [a])] = cls ring := by rw [← hring]; simp [cls]
  have wdr : ∀ c ∈ ring, c.1 ∈ rg m ∧ ∀ x ∈ c.2, x ∈ rg m := fun c hc => by
    rw [← hring] at hc
    rcases List.mem_append.mp hc with q | q
    · exact ⟨(wd3 c q).i, (wd3 c q).l⟩
    · simp only [List.mem_cons, List.not_mem_nil, or_false] at q
      rcases q with rfl | rfl
      · exact ⟨am, by simpa using zm⟩
      · exact ⟨zm, by simpa using am⟩
  have cr : (lb ring [] m).isEmpty = false := by
    cases e : (lb ring [] m).isEmpty with
    | false => rfl
    | true =>
      obtain ⟨p, _, hp⟩ := (can_iff (by omega) wdr).mp e
      have q1 := hp (a, [ez]) (by rw [← hring]; simp)
      have q2 := hp (ez, [a]) (by rw [← hring]; simp)
      simp [inOrd] at q1 q2
      omega
  have hqR : asQ (fr :: FT.sb s b5) (.lst (cls ring)) = some (cls ring) := rfl
  have cr1 := can_run hqR (show m < 100 by omega)
  have cr2 := fol_run hqR (show m < 100 by omega) (a1, [a])
  have ft : fol ring (a1, [a]) m = true := by unfold fol; rw [cr]; rfl
  rw [cr] at cr1
  rw [ft] at cr2
  have al2 := alike_bls2 100 (fr :: FT.sb s b5) false true
  refine ⟨b5, o5, ?_⟩
  have st : b_law_are_many_right 100 = (sCons (sAsg (eFn (m_law_one 100) (aCons (eVar 0) (aCons (eDead (fLst (aCons (eC (.int 16)) (aCons (eC (.int 24)) (aCons (eC (.int 20)) aNil))))) aNil))) (FM.gName 1))
    (sCons (sAsg (eTup (aCons (eFn (m_law_mixed 100) (aCons (eVar 0) (aCons (eDead (fRange (eVar 1))) aNil))) (aCons (eLive (fLst aNil)) aNil))) (FM.gTup [(FM.gName 2), (FM.gName 3)]))
    (sCons (sFor (iRange1 (eFn (m_law_one 100) (aCons (eVar 0) (aCons (eDead (fLst (aCons (eC (.int 14)) (aCons (eC (.int 24)) (aCons (eC (.int 9)) aNil))))) aNil)))) (FM.gName 4) (mrBody 100))
    (sCons (sAsg (eLive (fComp (iSeq (eVar 3)) [7, 8] (FM.gTup [(FM.gName 7), (FM.gName 8)]) tYes (eTup (aCons (eVar 7) (aCons (eTupleF (fSortSetT (eVar 8))) aNil))))) (FM.gName 3))
    (sCons (sAsg (eLive (fComp (iSeq (eVar 3)) [5] (FM.gName 5) (tVal (eFn (m_law_in_order 100) (aCons (eVar 2) (aCons (eVar 5) aNil)))) (eVar 5))) (FM.gName 3))
    (sCons (sIf (tNot (tVal (eFn (m_law_alike 100) (aCons (eFn (m_can_all_hold 100) (aCons (eVar 1) (aCons (eVar 3) aNil))) (aCons (eC (.bl true)) aNil))))) (sCons (sRet (eC (.bl false)))
    sNil) sNil)
    (sCons (sFor (iRange1 (eC (.int 3))) (FM.gName 4) mr2Body)
    (sCons (sAsg (eDead (fAdd (eVar 3) (eDead (fLst (aCons (eTup (aCons (eOp opIx (eVar 2) (eC (.int 0))) (aCons (eTup (aCons (eOp opIx (eVar 2) (eOp1 opNeg (eC (.int 1)))) aNil)) aNil))) (aCons (eTup (aCons (eOp opIx (eVar 2) (eOp1 opNeg (eC (.int 1)))) (aCons (eTup (aCons (eOp opIx (eVar 2) (eC (.int 0))) aNil)) aNil))) aNil)))))) (FM.gName 6))
    (sCons (sRet (eFnL (m_law_alike 100) (aCons (eDead (fLst (aCons (eFn (m_can_all_hold 100) (aCons (eVar 1) (aCons (eVar 6) aNil))) (aCons (eFn (m_follows 100) (aCons (eVar 1) (aCons (eVar 6) (aCons (eTup (aCons (eOp opIx (eVar 2) (eC (.int 1))) (aCons (eTup (aCons (eOp opIx (eVar 2) (eC (.int 0))) aNil)) aNil))) aNil)))) aNil)))) (aCons (eDead (fLst (aCons (eC (.bl false)) (aCons (eC (.bl true)) aNil)))) aNil))))
    sNil))))))))) := rfl
  have st2 : m_law_are_many_right 100 = mkFn 9 1 (b_law_are_many_right 100) := rfl
  have lt1 : (-1152921504606846976 : Int) < (m : Int) := by omega
  have sm := small_m (show m < 100 by omega)
  have lt2 : (-1152921504606846976 : Int) < (z : Int) := by omega
  have sz := small_m (show z < 100 by omega)
  have e0 : cls [] = [] := rfl
  rw [e0] at r4
  have an : asLn (fr :: FT.sb s b5) (.ref s.length 2) = some (cls cs3) := by
    simp only [asLn, asL, lk_top' (fr := fr) (n := 2) el5.symm, f2]
  have an2 : ∀ xs : List Val, asLn (fr :: FT.sb s b5) (.lst xs) = some xs := fun _ => rfl
  have sl : (cls cs3).length + 2 ≤ sizeLine := by unfold cls sizeLine; rw [List.length_map]; omega
  have s3 : (3 : Int) ≤ sizeLine := by decide
  simp only [cl, vi_cons, vi_nil] at hqr cr2
  simp only [vi_cons, vi_nil] at r1 r3
  subst hfr
  rw [st2, st]
  simp [mkFn, r1, lt1, sm, rangeV_rg, r2, r3, lt2, sz, r4, hq1, FM.wipe, c1, hq2, c2, sb_len, ca, al1, s3, r5, x0, x1, xz, an, an2, sl, hqr, cr1, cr2, al2]
end FT

set_option autoImplicit false
namespace FT
open PySem PySem.Spec PyProof.Rows L2 FM
theorem waits_congr {cs ds : List Cl} (h : ∀ c, c ∈ ds ↔ c ∈ cs) (i : Int) (L : List Int) : waits ds i L = waits cs i L := by
  apply Bool.eq_iff_iff.mpr
  rw [waits_iff, waits_iff]
  exact ⟨fun ⟨c, hc, r⟩ => ⟨c, (h c).mp hc, r⟩, fun ⟨c, hc, r⟩ => ⟨c, (h c).mpr hc, r⟩⟩
theorem leftBy_congr {cs ds : List Cl} (h : ∀ c, c ∈ ds ↔ c ∈ cs) (kept : List Int) : ∀ (n : Nat) (left : List Int), leftBy ds kept n left = leftBy cs kept n left
  | 0, _ => rfl
  | n + 1, left => by
    have e : freeOf ds kept left = freeOf cs kept left := by
      unfold freeOf
      exact List.filter_congr fun i _ => by rw [waits_congr h]
    unfold leftBy
    rw [e]
    split
    · rfl
    · exact leftBy_congr h kept n _
theorem lb_congr {cs ds : List Cl} (h : ∀ c, c ∈ ds ↔ c ∈ cs) (kept : List Int) (m : Nat) : lb ds kept m = lb cs kept m := by unfold lb; rw [leftBy_congr h]
theorem fol_congr {cs ds : List Cl} (h : ∀ c, c ∈ ds ↔ c ∈ cs) (c : Cl) (m : Nat) : fol ds c m = fol cs c m := by unfold fol; rw [lb_congr h, lb_congr h]
theorem perm_cls {ys : List Val} {cs : List Cl} (h : ys.Perm (cls cs)) : ∃ ds : List Cl, (∀ c, c ∈ ds ↔ c ∈ cs) ∧ ys = cls ds := by
  have hx : ∀ zs : List Val, (∀ y ∈ zs, ∃ c ∈ cs, y = cl c) → ∃ ds : List Cl, zs = cls ds ∧ ∀ c ∈ ds, c ∈ cs := by
    intro zs
    induction zs with
    | nil => intro _; exact ⟨[], rfl, by simp⟩
    | cons z zs ih =>
      intro H
      obtain ⟨ds, e, hd⟩ := ih fun y hy => H y (List.mem_cons_of_mem _ hy)
      obtain ⟨c, hc, ec⟩ := H z List.mem_cons_self
      exact ⟨c :: ds, by rw [ec, e]; rfl, fun d hd' => by
        rcases List.mem_cons.mp hd' with q | q
        · rw [q]; exact hc
        · exact hd d q⟩
  obtain ⟨ds, e, hd⟩ := hx ys fun y hy => by
    obtain ⟨c, hc, e⟩ := List.mem_map.mp (h.mem_iff.mp hy)
    exact ⟨c, hc, e.symm⟩
  refine ⟨ds, fun c => ⟨hd c, fun hc => ?_⟩, e⟩
  have m1 : cl c ∈ ys := h.mem_iff.mpr (List.mem_map_of_mem hc)
  rw [e] at m1
  obtain ⟨d, hd', ed⟩ := List.mem_map.mp m1
  have : d = c := by
    simp only [cl, Val.tup.injEq, List.cons.injEq, Val.int.injEq, and_true] at ed
    have e2 : d.2 = c.2 := by
      have q := congrArg intsOf ed.2
      simpa using q
    exact Prod.ext ed.1 e2
  exact this ▸ hd'
def againBody : Sx := (sCons (sAsg (eIf (tAnd (tVal (eOp opNe (eVar 4) (eDead (fLst aNil)))) (tVal (eOp opEq (eFn (m_law_take 100) (aCons (eVar 1) (aCons (eC (.int 4)) aNil))) (eC (.int 0))))) (eFn (m_law_one 100) (aCons (eVar 1) (aCons (eVar 4) aNil))) (eFn (m_law_claim 100) (aCons (eVar 1) (aCons (eVar 3) aNil)))) (FM.gName 9))
    (sCons (sAsg (eFn (m_law_follows 100) (aCons (eVar 3) (aCons (eVar 4) (aCons (eVar 9) aNil)))) (FM.gName 6))
    (sCons (sIf (tNot (tVal (eFn (m_law_alike 100) (aCons (eDead (fLst (aCons (eFn (m_follows 100) (aCons (eVar 3) (aCons (eVar 4) (aCons (eVar 9) aNil)))) (aCons (eFn (m_follows 100) (aCons (eVar 3) (aCons (eVar 7) (aCons (eVar 9) aNil)))) aNil)))) (aCons (eDead (fLst (aCons (eVar 6) (aCons (eVar 6) aNil)))) aNil))))) (sCons (sRet (eC (.bl false)))
    sNil) sNil)
    (sCons (sIf (tAnd (tVal (eOp opLt (eVar 3) (eC (.int 5)))) (tNot (tVal (eFn (m_law_is_by_all 100) (aCons (eVar 3) (aCons (eVar 4) (aCons (eVar 9) aNil))))))) (sCons (sRet (eC (.bl false)))
    sNil) sNil)
    sNil))))
theorem again_loop {m : Nat} (h2 : 2 ≤ m) (hm : m ≤ 40) {cs ds : List Cl} (hg : ∀ c ∈ cs, Good m c) (hds : ∀ c, c ∈ ds ↔ c ∈ cs) (hl : cs.length ≤ 8) (sc t said : Option Val) : ∀ (xs : List Val) (s : S) (due y z : Option Val), HB s →
    ∃ (b : BagT) (due' y' z' : Option Val), b.Ok ∧
      forL (fun _ => true) (FM.gName 8) againBody xs [sc, some (.ref 0 0), t, some (.int m), some (.lst (cls cs)), said, due, some (.tup (cls ds)), y, z] s
        = .nx [sc, some (.ref 0 0), t, some (.int m), some (.lst (cls cs)), said, due', some (.tup (cls ds)), y', z'] (FT.sb s b)
  | [], s, due, y, z, h => by
    obtain ⟨b, ob, e⟩ := h.self
    exact ⟨b, due, y, z, ob, by rw [e]; simp [forL]⟩
  | x :: xs, s, due, y, z, h => by
    have pick : ∃ (c : Cl) (b : BagT), b.Ok ∧ Good m c ∧ (eIf (tAnd (tVal (eOp opNe (eVar 4) (eDead (fLst aNil)))) (tVal (eOp opEq (eFn (m_law_take 100) (aCons (eVar 1) (aCons (eC (.int 4)) aNil))) (eC (.int 0))))) (eFn (m_law_one 100) (aCons (eVar 1) (aCons (eVar 4) aNil))) (eFn (m_law_claim 100) (aCons (eVar 1) (aCons (eVar 3) aNil))))
        [sc, some (.ref 0 0), t, some (.int m), some (.lst (cls cs)), said, due, some (.tup (cls ds)), some x, z] s = .ok (cl c) (FT.sb s b) := by
      have en := opNe_nil (s := s) (l := cls cs) (cls_pure cs)
      by_cases he : cs = []
      · obtain ⟨c, b, o, g, r⟩ := claim_run 100 h h2 hm
        rw [he] at en
        exact ⟨c, b, o, g, by rw [he]; simp [en, r, cls]; simp [cls] at en; simp [en, r]⟩
      · obtain ⟨v, b1, o1, v0, v1, r1⟩ := take_run 100 h (many := 4) (by omega) (by omega)
        have h1 := h.sb o1
        have ei : (cls cs).isEmpty = false := by rw [cls_isEmpty]; cases cs with | nil => exact absurd rfl he | cons _ _ => rfl
        rw [ei] at en
        by_cases hv : v = 0
        · obtain ⟨w, hw, b2, o2, r2⟩ := one_run 100 h1 (X := .lst (cls cs)) (fun z => by cases z) rfl (cls_pure cs) (fun e => by rw [e] at ei; cases ei) (by unfold cls; rw [List.length_map]; omega)
          rw [sb_sb] at r2
          obtain ⟨c, hc, rfl⟩ := List.mem_map.mp hw
          exact ⟨c, b2, o2, hg c hc, by simp [en, r1, hv, r2]⟩
        · obtain ⟨c, b2, o2, g, r2⟩ := claim_run 100 h1 h2 hm
          rw [sb_sb] at r2
          exact ⟨c, b2, o2, g, by simp [en, r1, hv, r2]⟩
    obtain ⟨c, b, o, gc, r⟩ := pick
    have h1 := h.sb o
    have f1 := lfol_run (s := FT.sb s b) (C := .lst (cls cs)) (cs := cs) rfl (show m < 100 by omega) c
    have f2 := fol_run (s := FT.sb s b) (C := .lst (cls cs)) (cs := cs) rfl (show m < 100 by omega) c
    have f3 := fol_run (s := FT.sb s b) (C := .tup (cls ds)) (cs := ds) rfl (show m < 100 by omega) c
    rw [fol_congr hds] at f3
    have al := alike_bls2 100 (FT.sb s b) (fol cs c m) (fol cs c m)
    obtain ⟨b', due', y', z', ob, r'⟩ := again_loop h2 hm hg hds hl sc t said xs (FT.sb s b) (some (.bl (fol cs c m))) (some x) (some (cl c)) h1
    rw [sb_sb] at r'
    refine ⟨b', due', y', z', ob, ?_⟩
    have st : againBody = sCons (sAsg (eIf (tAnd (tVal (eOp opNe (eVar 4) (eDead (fLst aNil)))) (tVal (eOp opEq (eFn (m_law_take 100) (aCons (eVar 1) (aCons (eC (.int 4)) aNil))) (eC (.int 0))))) (eFn (m_law_one 100) (aCons (eVar 1) (aCons (eVar 4) aNil))) (eFn (m_law_claim 100) (aCons (eVar 1) (aCons (eVar 3) aNil)))) (FM.gName 9)) (sCons (sAsg (eFn (m_law_follows 100) (aCons (eVar 3) (aCons (eVar 4) (aCons (eVar 9) aNil)))) (FM.gName 6))
    (sCons (sIf (tNot (tVal (eFn (m_law_alike 100) (aCons (eDead (fLst (aCons (eFn (m_follows 100) (aCons (eVar 3) (aCons (eVar 4) (aCons (eVar 9) aNil)))) (aCons (eFn (m_follows 100) (aCons (eVar 3) (aCons (eVar 7) (aCons (eVar 9) aNil)))) aNil)))) (aCons (eDead (fLst (aCons (eVar 6) (aCons (eVar 6) aNil)))) aNil))))) (sCons (sRet (eC (.bl false)))
    sNil) sNil)
    (sCons (sIf (tAnd (tVal (eOp opLt (eVar 3) (eC (.int 5)))) (tNot (tVal (eFn (m_law_is_by_all 100) (aCons (eVar 3) (aCons (eVar 4) (aCons (eVar 9) aNil))))))) (sCons (sRet (eC (.bl false)))
    sNil) sNil)
    sNil))) := rfl
    by_cases h5 : m ≤ 4
    · have ba := by_all_run (s := FT.sb s b) (C := .lst (cls cs)) (c := c) rfl h5 hg gc
      have h5' : (m : Int) < 5 := by omega
      simp only [forL, if_true, run_gname]
      rw [st] at r' ⊢
      simp only [run_cons, run_asg, List.set_cons_succ, List.set_cons_zero, r, seq_ok]
      simp [f1, f2, f3, al, h5', ba]
      exact r'
    · have h5' : ¬ (m : Int) < 5 := by omega
      simp only [forL, if_true, run_gname]
      rw [st] at r' ⊢
      simp only [run_cons, run_asg, List.set_cons_succ, List.set_cons_zero, r, seq_ok]
      simp [f1, f2, f3, al, h5']
      exact r'
end FT

set_option autoImplicit false
namespace FT
open PySem PySem.Spec PyProof.Rows L2 FM
theorem textFrom_le : ∀ (ts : List PySem.Str) (k : Nat) (acc : PySem.Str), (textFrom k acc ts).length ≤ acc.length + piled ts
  | [], k, acc => Nat.le_add_right _ _
  | t :: r, k, acc => by
    have ih := textFrom_le r (k + 1) (acc ++ (if k > 0 then ", " else "" : String) ++ t)
    have e : (acc ++ (if k > 0 then ", " else "" : String) ++ t).length = acc.length + (if k > 0 then 2 else 0) + t.length := by
      rw [strLen_append, strLen_append]
      split <;> rfl
    rw [e] at ih
    have d : (if k > 0 then 2 else 0 : Nat) ≤ 2 := by split <;> omega
    show (textFrom (k + 1) _ r).length ≤ _
    rw [piled_cons]
    omega
theorem list_le (ts : List PySem.Str) : (listText ts).length ≤ piled ts + 2 := by
  have h := textFrom_le ts 0 "["
  unfold listText
  rw [strLen_append]
  have e1 : ((("[" : String) : PySem.Str)).length = 1 := rfl
  have e2 : ((("]" : String) : PySem.Str)).length = 1 := rfl
  rw [e1] at h
  rw [e2]
  omega
theorem tuple_le (ts : List PySem.Str) : (tupleText ts).length ≤ piled ts + 3 := by
  unfold tupleText
  rw [strLen_append, strLen_append]
  have e1 : ((("(" : String) : PySem.Str)).length = 1 := rfl
  have e3 : (((if ts.length == 1 then ",)" else ")" : String) : PySem.Str)).length ≤ 2 := by split <;> decide
  rw [e1]
  cases ts with
  | nil =>
    have : (PySem.Str.join ", " []).length = 0 := rfl
    omega
  | cons t r =>
    have := join_length_add (t :: r) (by simp)
    omega
theorem piled_le (B : Nat) : ∀ ts : List PySem.Str, (∀ t ∈ ts, t.length ≤ B) → piled ts ≤ ts.length * (B + 2)
  | [], _ => by simp [piled_nil]
  | t :: r, h => by
    have h1 := h t List.mem_cons_self
    have h2 := piled_le B r fun u hu => h u (List.mem_cons_of_mem _ hu)
    rw [piled_cons, List.length_cons, Nat.succ_mul]
    omega
theorem int_le : ∀ n : Fin 40, (PyData.shown (.int ((n.val : Nat) : Int))).length ≤ 2 := by decide +kernel
theorem int_le' {i : Int} (h0 : 0 ≤ i) (h1 : i < 40) : (PyData.shown (.int i)).length ≤ 2 := by
  have := int_le ⟨i.toNat, by omega⟩
  simp only at this
  rwa [Int.toNat_of_nonneg h0] at this
theorem shownAll_map : ∀ l : List PyData, PyData.shownAll l = l.map PyData.shown
  | [] => rfl
  | x :: l => by simp [PyData.shownAll, shownAll_map l]
theorem toDs_map : ∀ l : List Val, toDs l = l.map toD
  | [] => rfl
  | x :: l => by simp [toDs, toDs_map l]
theorem vi_shown {l : List Int} (h : ∀ x ∈ l, 0 ≤ x ∧ x < 40) (hl : l.length ≤ 40) : (PyData.shown (toD (.tup (vi l)))).length ≤ 200 := by
  have e : PyData.shown (toD (.tup (vi l))) = tupleText ((vi l).map fun v => PyData.shown (toD v)) := by
    simp [toD, PyData.shown, shownAll_map, toDs_map, Function.comp_def]
  rw [e]
  have h1 := tuple_le ((vi l).map fun v => PyData.shown (toD v))
  have h2 := piled_le 2 ((vi l).map fun v => PyData.shown (toD v)) fun t ht => by
    obtain ⟨v, hv, rfl⟩ := List.mem_map.mp ht
    obtain ⟨k, hk, rfl⟩ := List.mem_map.mp hv
    exact int_le' (h k hk).1 (h k hk).2
  rw [List.length_map, vi_len] at h2
  omega
theorem cl_shown {m : Nat} (hm : m ≤ 40) {c : Cl} (g : Good m c) : (PyData.shown (toD (cl c))).length ≤ 500 := by
  have e : PyData.shown (toD (cl c)) = tupleText [PyData.shown (.int c.1), PyData.shown (toD (.tup (vi c.2)))] := by
    simp [cl, toD, toDs, PyData.shown, PyData.shownAll]
  rw [e]
  have h1 := tuple_le [PyData.shown (.int c.1), PyData.shown (toD (.tup (vi c.2)))]
  have h2 := int_le' g.i0 (by have := g.i1; omega)
  have h3 := vi_shown (l := c.2) (fun x hx => ⟨g.l0 x hx, by have := g.l1 x hx; omega⟩) g.len
  simp only [piled_cons, piled_nil] at h1
  omega
theorem showAll_of : ∀ l : List PyData, (∀ d ∈ l, d.showable = true) → PyData.showableAll l = true
  | [], _ => rfl
  | x :: l, h => by simp [PyData.showableAll, h x List.mem_cons_self, showAll_of l fun d hd => h d (List.mem_cons_of_mem _ hd)]
theorem depthAll_of (k : Nat) : ∀ l : List PyData, (∀ d ∈ l, d.depth ≤ k) → PyData.depthAll l ≤ k
  | [], _ => by simp [PyData.depthAll]
  | x :: l, h => by
    have h1 := h x List.mem_cons_self
    have h2 := depthAll_of k l fun d hd => h d (List.mem_cons_of_mem _ hd)
    simp only [PyData.depthAll]
    omega
theorem int_show {i : Int} (h0 : 0 ≤ i) (h1 : i < 40) : (PyData.int i).showable = true := by
  simp only [PyData.showable, decide_eq_true_eq]
  have := Nat.log2_le_self i.natAbs
  omega
theorem cl_ok {m : Nat} (hm : m ≤ 40) {c : Cl} (g : Good m c) : (toD (cl c)).showable = true ∧ (toD (cl c)).depth ≤ 10 := by
  have e : toD (cl c) = .tuple [.int c.1, .tuple ((vi c.2).map toD)] := by simp [cl, toD, toDs, toDs_map]
  rw [e]
  have s1 := int_show g.i0 (by have := g.i1; omega)
  have s2 : PyData.showableAll ((vi c.2).map toD) = true := showAll_of _ fun d hd => by
    obtain ⟨v, hv, rfl⟩ := List.mem_map.mp hd
    obtain ⟨k, hk, rfl⟩ := List.mem_map.mp hv
    have := g.l1 k hk
    have q : toD (Val.int k) = .int k := by simp [toD]
    rw [q]
    exact int_show (g.l0 k hk) (by omega)
  have d2 : PyData.depthAll ((vi c.2).map toD) ≤ 0 := depthAll_of 0 _ fun d hd => by
    obtain ⟨v, hv, rfl⟩ := List.mem_map.mp hd
    obtain ⟨k, hk, rfl⟩ := List.mem_map.mp hv
    simp [toD, PyData.depth]
  refine ⟨by simp [PyData.showable, PyData.showableAll] at s1 ⊢; exact ⟨s1, s2⟩, ?_⟩
  simp only [PyData.depth, PyData.depthAll]
  omega
theorem repr_cls {m : Nat} {cs : List Cl} (hm : m ≤ 40) (hg : ∀ c ∈ cs, Good m c) (hl : cs.length ≤ 8) : ∃ z : PySem.Str, ∀ s : S, bRepr s [.lst (cls cs)] = some (.str z) := by
  have e : toD (.lst (cls cs)) = .list ((cls cs).map toD) := by simp [toD, toDs_map]
  refine ⟨_, fun s => repr_ok (by unfold FM.pure; exact cls_pure cs) ?_ ?_ ?_ s⟩
  · rw [e]
    simp only [PyData.showable]
    exact showAll_of _ fun d hd => by
      obtain ⟨v, hv, rfl⟩ := List.mem_map.mp hd
      obtain ⟨c, hc, rfl⟩ := List.mem_map.mp hv
      exact (cl_ok hm (hg c hc)).1
  · rw [e]
    simp only [PyData.shown, shownAll_map]
    have h1 := list_le (((cls cs).map toD).map PyData.shown)
    have h2 := piled_le 500 (((cls cs).map toD).map PyData.shown) fun t ht => by
      obtain ⟨d, hd, rfl⟩ := List.mem_map.mp ht
      obtain ⟨v, hv, rfl⟩ := List.mem_map.mp hd
      obtain ⟨c, hc, rfl⟩ := List.mem_map.mp hv
      exact cl_shown hm (hg c hc)
    have h3 : (((cls cs).map toD).map PyData.shown).length ≤ 8 := by simpa [cls] using hl
    have h4 := Nat.mul_le_mul_right 502 h3
    unfold sizeLine
    omega
  · rw [e]
    have := depthAll_of 10 ((cls cs).map toD) fun d hd => by
      obtain ⟨v, hv, rfl⟩ := List.mem_map.mp hd
      obtain ⟨c, hc, rfl⟩ := List.mem_map.mp hv
      exact (cl_ok hm (hg c hc)).2
    simp only [PyData.depth]
    omega
end FT

set_option autoImplicit false
namespace FT
open PySem PySem.Spec PyProof.Rows L2 FM
def turnBody : Sx := (sCons (sAsg (eFn (m_law_one 100) (aCons (eVar 1) (aCons (eDead (fLst (aCons (eC (.int 3)) (aCons (eC (.int 4)) (aCons (eC (.int 2)) (aCons (eC (.int 7)) (aCons (eC (.int 5)) aNil))))))) aNil))) (FM.gName 3))
    (sCons (sAsg (eFn (m_law_claims 100) (aCons (eVar 1) (aCons (eVar 3) aNil))) (FM.gName 4))
    (sCons (sPar 5 6 (eCall bRepr (aCons (eVar 4) aNil)) (eOp opEq (eFn (m_law_claims_left 100) (aCons (eVar 3) (aCons (eVar 4) (aCons (eTup aNil) aNil)))) (eDead (fLst aNil))))
    (sCons (sAsg (eCall bTuple (aCons (eFn (m_law_mixed 100) (aCons (eVar 1) (aCons (eDead (fAdd (eVar 4) (eDead (fSl (eVar 4) oNone (oSome (eC (.int 2))))))) aNil))) aNil)) (FM.gName 7))
    (sCons (sIf (tNot (tVal (eFn (m_law_alike 100) (aCons (eDead (fLst (aCons (eFn (m_can_all_hold 100) (aCons (eVar 3) (aCons (eVar 4) aNil))) (aCons (eFn (m_can_all_hold 100) (aCons (eVar 3) (aCons (eVar 7) aNil))) aNil)))) (aCons (eDead (fLst (aCons (eVar 6) (aCons (eVar 6) aNil)))) aNil))))) (sCons (sRet (eC (.bl false)))
    sNil) sNil)
    (sCons (sFor (iRange1 (eC (.int 3))) (FM.gName 8) (sCons (sAsg (eIf (tAnd (tVal (eOp opNe (eVar 4) (eDead (fLst aNil)))) (tVal (eOp opEq (eFn (m_law_take 100) (aCons (eVar 1) (aCons (eC (.int 4)) aNil))) (eC (.int 0))))) (eFn (m_law_one 100) (aCons (eVar 1) (aCons (eVar 4) aNil))) (eFn (m_law_claim 100) (aCons (eVar 1) (aCons (eVar 3) aNil)))) (FM.gName 9))
    (sCons (sAsg (eFn (m_law_follows 100) (aCons (eVar 3) (aCons (eVar 4) (aCons (eVar 9) aNil)))) (FM.gName 6))
    (sCons (sIf (tNot (tVal (eFn (m_law_alike 100) (aCons (eDead (fLst (aCons (eFn (m_follows 100) (aCons (eVar 3) (aCons (eVar 4) (aCons (eVar 9) aNil)))) (aCons (eFn (m_follows 100) (aCons (eVar 3) (aCons (eVar 7) (aCons (eVar 9) aNil)))) aNil)))) (aCons (eDead (fLst (aCons (eVar 6) (aCons (eVar 6) aNil)))) aNil))))) (sCons (sRet (eC (.bl false)))
    sNil) sNil)
    (sCons (sIf (tAnd (tVal (eOp opLt (eVar 3) (eC (.int 5)))) (tNot (tVal (eFn (m_law_is_by_all 100) (aCons (eVar 3) (aCons (eVar 4) (aCons (eVar 9) aNil))))))) (sCons (sRet (eC (.bl false)))
    sNil) sNil)
    sNil)))))
    (sCons (sIf (tVal (eOp opNe (eCall bRepr (aCons (eVar 4) aNil)) (eVar 5))) (sCons (sRet (eC (.bl false)))
    sNil) sNil)
    sNil)))))))
theorem turn_loop (sc : Option Val) : ∀ (xs : List Val) (s : S) (a2 a3 a4 a5 a6 a7 a8 a9 : Option Val), HB s →
    ∃ (b : BagT) (b2 b3 b4 b5 b6 b7 b8 b9 : Option Val), b.Ok ∧
      forL (fun _ => true) (FM.gName 2) turnBody xs [sc, some (.ref 0 0), a2, a3, a4, a5, a6, a7, a8, a9] s = .nx [sc, some (.ref 0 0), b2, b3, b4, b5, b6, b7, b8, b9] (FT.sb s b)
  | [], s, a2, a3, a4, a5, a6, a7, a8, a9, h => by
    obtain ⟨b, ob, e⟩ := h.self
    exact ⟨b, a2, a3, a4, a5, a6, a7, a8, a9, ob, by rw [e]; simp [forL]⟩
  | x :: xs, s, a2, a3, a4, a5, a6, a7, a8, a9, h => by
    obtain ⟨k, hk, b1, o1, r1⟩ := one_run 100 h (X := .lst (vi [3, 4, 2, 7, 5])) (fun z => by cases z) rfl (pureAll_vi _) (by simp) (by simp)
    have hk' : ∃ m : Nat, k = .int m ∧ 2 ≤ m ∧ m ≤ 40 := by
      simp only [vi_cons, vi_nil, List.mem_cons, List.not_mem_nil, or_false] at hk
      rcases hk with e | e | e | e | e
      · exact ⟨3, e, by omega, by omega⟩
      · exact ⟨4, e, by omega, by omega⟩
      · exact ⟨2, e, by omega, by omega⟩
      · exact ⟨7, e, by omega, by omega⟩
      · exact ⟨5, e, by omega, by omega⟩
    obtain ⟨m, rfl, h2, hm⟩ := hk'
    have h1 := h.sb o1
    obtain ⟨cs, b2, o2, hg, hl, r2⟩ := claims_run 100 h1 h2 hm
    rw [sb_sb] at r2
    have hh2 := h.sb o2
    obtain ⟨z, hz⟩ := repr_cls hm hg hl
    have r3 := claims_left_run (s := FT.sb s b2) (C := .lst (cls cs)) (cs := cs) (Kp := .tup []) (kept := []) (m := m) rfl rfl (by omega)
    have e3 := opEq_nil (s := FT.sb s b2) (l := vi (lb cs [] m)) (pureAll_vi _)
    have ei : (vi (lb cs [] m)).isEmpty = (lb cs [] m).isEmpty := by cases lb cs [] m <;> rfl
    rw [ei] at e3
    have ct : cutL (cls cs) none (some 2) = cls (cs.take 2) := by
      simp [cutL, FM.sIx, cls]
    have ea : cls cs ++ cls (cs.take 2) = cls (cs ++ cs.take 2) := by simp [cls]
    obtain ⟨ys, b3, o3, p3, r4⟩ := mixed_run 100 hh2 (X := .lst (cls (cs ++ cs.take 2))) (fun z => by cases z) rfl (cls_pure _) (by unfold cls; rw [List.length_map, List.length_append, List.length_take]; omega)
    rw [sb_sb] at r4
    obtain ⟨ds, hds, rfl⟩ := perm_cls p3
    have hds' : ∀ c, c ∈ ds ↔ c ∈ cs := fun c => (hds c).trans ⟨fun q => (List.mem_append.mp q).elim id fun q => List.mem_of_mem_take q, fun q => List.mem_append_left _ q⟩
    have hh3 := h.sb o3
    have f1 := can_run (s := FT.sb s b3) (C := .lst (cls cs)) (cs := cs) (m := m) rfl (by omega)
    have f2 := can_run (s := FT.sb s b3) (C := .tup (cls ds)) (cs := ds) (m := m) rfl (by omega)
    rw [lb_congr hds'] at f2
    have al := alike_bls2 100 (FT.sb s b3) (lb cs [] m).isEmpty (lb cs [] m).isEmpty
    obtain ⟨b4, due, y, w, o4, r5⟩ := again_loop h2 hm hg hds' hl sc (some x) (some (.str z)) (vi (rg 3)) (FT.sb s b3) (some (.bl (lb cs [] m).isEmpty)) a8 a9 hh3
    rw [sb_sb] at r5
    have hh4 := h.sb o4
    have ne : opNe (FT.sb s b4) (.str z) (.str z) = some (.bl false) := by simp [opNe]
    obtain ⟨b5, c2, c3, c4, c5, c6, c7, c8, c9, o5, r6⟩ := turn_loop sc xs (FT.sb s b4) (some x) (some (.int m)) (some (.lst (cls cs))) (some (.str z)) due (some (.tup (cls ds))) y w hh4
    rw [sb_sb] at r6
    have sl : (cls cs).length + (cls (cs.take 2)).length ≤ sizeLine := by unfold cls sizeLine; rw [List.length_map, List.length_map, List.length_take]; omega
    have s3 : (3 : Int) ≤ sizeLine := by decide
    have bt : bTuple (FT.sb s b3) [.lst (cls ds)] = some (.tup (cls ds)) := rfl
    refine ⟨b5, c2, c3, c4, c5, c6, c7, c8, c9, o5, ?_⟩
    have st : turnBody = (sCons (sAsg (eFn (m_law_one 100) (aCons (eVar 1) (aCons (eDead (fLst (aCons (eC (.int 3)) (aCons (eC (.int 4)) (aCons (eC (.int 2)) (aCons (eC (.int 7)) (aCons (eC (.int 5)) aNil))))))) aNil))) (FM.gName 3))
    (sCons (sAsg (eFn (m_law_claims 100) (aCons (eVar 1) (aCons (eVar 3) aNil))) (FM.gName 4))
    (sCons (sPar 5 6 (eCall bRepr (aCons (eVar 4) aNil)) (eOp opEq (eFn (m_law_claims_left 100) (aCons (eVar 3) (aCons (eVar 4) (aCons (eTup aNil) aNil)))) (eDead (fLst aNil))))
    (sCons (sAsg (eCall bTuple (aCons (eFn (m_law_mixed 100) (aCons (eVar 1) (aCons (eDead (fAdd (eVar 4) (eDead (fSl (eVar 4) oNone (oSome (eC (.int 2))))))) aNil))) aNil)) (FM.gName 7))
    (sCons (sIf (tNot (tVal (eFn (m_law_alike 100) (aCons (eDead (fLst (aCons (eFn (m_can_all_hold 100) (aCons (eVar 3) (aCons (eVar 4) aNil))) (aCons (eFn (m_can_all_hold 100) (aCons (eVar 3) (aCons (eVar 7) aNil))) aNil)))) (aCons (eDead (fLst (aCons (eVar 6) (aCons (eVar 6) aNil)))) aNil))))) (sCons (sRet (eC (.bl false)))
    sNil) sNil)
    (sCons (sFor (iRange1 (eC (.int 3))) (FM.gName 8) againBody)
    (sCons (sIf (tVal (eOp opNe (eCall bRepr (aCons (eVar 4) aNil)) (eVar 5))) (sCons (sRet (eC (.bl false)))
    sNil) sNil)
    sNil))))))) := rfl
    simp only [vi_cons, vi_nil] at r1
    simp only [forL, if_true, run_gname]
    rw [st] at r6 ⊢
    simp [r1, r2, hz, r3, e3, -List.isEmpty_iff, asLn, asL, ct, sl, ea, r4, bt, f1, f2, al, s3, rangeV_rg, r5, ne]
    exact r6
def lawTail : Sx := (sCons (sIf (tNot (tVal (eFn (m_law_alike 100) (aCons (eDead (fLst (aCons (eFn (m_can_all_hold 100) (aCons (eC (.int 0)) (aCons (eDead (fLst aNil)) aNil))) (aCons (eFn (m_can_all_hold 100) (aCons (eC (.int 1)) (aCons (eTup aNil) aNil))) (aCons (eFn (m_can_all_hold 100) (aCons (eC (.int 0)) (aCons (eTup aNil) aNil))) aNil))))) (aCons (eDead (fMul (eDead (fLst (aCons (eC (.bl true)) aNil))) (eC (.int 3)))) aNil))))) (sCons (sRet (eC (.bl false)))
    sNil) sNil)
    (sCons (sFor (iRange1 (eC (.int 4))) (FM.gName 2) turnBody)
    (sCons (sRet (eC (.bl true)))
    sNil)))
theorem can0 : (lb [] [] 0).isEmpty = true := by decide
theorem can1 : (lb [] [] 1).isEmpty = true := by decide
def fuel (ns : List Int) : Nat := 100
theorem law_true : ∀ ns : List Int, ns.length ≤ 63 → (∀ z ∈ ns, Builtin.Int.intBits z ≤ 1048576) → ∃ s', m_law (fuel ns) [.scr (ns.map Val.int)] [] = .ok (.val (.bl true)) s' := by
  intro ns hn _
  have cut : cutL (vi ns) none (some 63) = vi ns := by
    simp [cutL, FM.sIx]
    rw [Nat.min_eq_right hn, List.take_of_length_le (by simp)]
  have comp : compL (still (.lst (vi ns)) (vi ns)) (FM.gName 1) FM.tYes (eCall bAbs (aCons (eVar 1) aNil)) [some (.scr (vi ns)), none] (vi ns) [] [[], []] = .ok (ns.map fun n => .int (if n < 0 then -n else n)) [[], []] :=
    compL_all Val.int _ rfl ns fun n _ => ⟨_, rfl, by simp⟩
  have ec : (ns.map fun n => Val.int (if n < 0 then -n else n)) = vi (ns.map fun n => if n < 0 then -n else n) := by simp [vi, Function.comp_def]
  rw [ec] at comp
  generalize hb0 : (⟨0, 1234567891, 0, ns.map fun n => if n < 0 then -n else n⟩ : BagT) = b0
  have o0 : b0.Ok := by rw [← hb0]; exact ⟨Int.le_refl _, ⟨by show (0 : Int) ≤ 1234567891; omega, by show (1234567891 : Int) < 2147483647; omega⟩, Int.le_refl _, by simpa using hn⟩
  have e0 : bagC b0 = .lst [.int 0, .int 1234567891, .int 0, .lst (vi (ns.map fun n => if n < 0 then -n else n))] := by rw [← hb0]; rfl
  have bag : m_law_bag 100 [.scr (vi ns)] [[]] = .ok (.cell (bagC b0)) [[]] := by
    rw [e0]
    have rc : retOf 1 [.lst [.int 0, .int 1234567891, .int 0, .lst (vi (ns.map fun n => if n < 0 then -n else n))]] (.ref 1 0) = some (.cell (.lst [.int 0, .int 1234567891, .int 0, .lst (vi (ns.map fun n => if n < 0 then -n else n))])) := retOf_cell rfl (by simp [pureAll, FM.pure])
    simp [m_law_bag, b_law_bag, mkFn, asL, cut, FM.wipe, comp, rc]
  have h0 : HB [[bagC b0]] := ⟨b0, rfl, o0⟩
  obtain ⟨v, b1, o1, v0, v1, r1⟩ := take_run 100 h0 (many := 4) (by omega) (by omega)
  have h1 := h0.sb o1
  obtain ⟨b2, o2, r2⟩ := many_run h1
  rw [sb_sb] at r2
  have tail : ∀ b : BagT, b.Ok → ∃ s', lawTail [some (.scr (vi ns)), some (.ref 0 0), none, none, none, none, none, none, none, none] (FT.sb [[bagC b0]] b) = .rt (.bl true) s' ∧ s'.length = 1 := by
    intro b ob
    have hb := h0.sb ob
    have q0 := can_run (s := FT.sb [[bagC b0]] b) (C := .lst []) (cs := []) (m := 0) rfl (by omega)
    have q1 := can_run (s := FT.sb [[bagC b0]] b) (C := .tup []) (cs := []) (m := 1) rfl (by omega)
    have q2 := can_run (s := FT.sb [[bagC b0]] b) (C := .tup []) (cs := []) (m := 0) rfl (by omega)
    rw [can0] at q0 q2
    rw [can1] at q1
    have al := alike_bls3 100 (FT.sb [[bagC b0]] b) true true true
    obtain ⟨b', c2, c3, c4, c5, c6, c7, c8, c9, o', r⟩ := turn_loop (some (.scr (vi ns))) (vi (rg 4)) (FT.sb [[bagC b0]] b) none none none none none none none none hb
    rw [sb_sb] at r
    have s4 : (4 : Int) ≤ sizeLine := by decide
    have s3 : 3 ≤ sizeLine := by decide
    have q0 : m_can_all_hold 100 [.int 0, .lst []] (FT.sb [[bagC b0]] b) = _ := q0
    have q1 : m_can_all_hold 100 [.int 1, .tup []] (FT.sb [[bagC b0]] b) = _ := q1
    have q2 : m_can_all_hold 100 [.int 0, .tup []] (FT.sb [[bagC b0]] b) = _ := q2
    refine ⟨FT.sb [[bagC b0]] b', ?_, by rw [sb_len]; rfl⟩
    simp [lawTail, q0, q1, q2, asLn, asL, s3, List.replicate, al, s4, rangeV_rg, r]
  have st : b_law 100 = sCons (sAsg (eFnL (m_law_bag 100) (aCons (eVar 0) aNil)) (FM.gName 1)) (sCons (sIf (tAnd (tVal (eOp opEq (eFn (m_law_take 100) (aCons (eVar 1) (aCons (eC (.int 4)) aNil))) (eC (.int 0)))) (tNot (tVal (eFn (m_law_are_many_right 100) (aCons (eVar 1) aNil))))) (sCons (sRet (eC (.bl false)))
    sNil) sNil) (lawTail)) := rfl
  have hd : (sAsg (eFnL (m_law_bag 100) (aCons (eVar 0) aNil)) (FM.gName 1)) [some (.scr (vi ns)), none, none, none, none, none, none, none, none, none] [[]] = .nx [some (.scr (vi ns)), some (.ref 0 0), none, none, none, none, none, none, none, none] [[bagC b0]] := by
    simp [bag]
    rfl
  have st2 : m_law 100 [.scr (vi ns)] [] = (match b_law 100 [some (.scr (vi ns)), none, none, none, none, none, none, none, none, none] [[]] with
    | .rt v s1 => finish v s1
    | .nx _ s1 => finish .non s1
    | _ => .no) := rfl
  show ∃ s', m_law 100 [.scr (vi ns)] [] = .ok (.val (.bl true)) s'
  refine ⟨[], ?_⟩
  rw [st2, st]
  simp only [run_cons, hd, then_nx]
  by_cases hv : v = 0
  · obtain ⟨s', e, l⟩ := tail b2 o2
    obtain ⟨fr, rfl⟩ := List.length_eq_one_iff.mp l
    simp [r1, hv, r2, e]
  · obtain ⟨s', e, l⟩ := tail b1 o1
    obtain ⟨fr, rfl⟩ := List.length_eq_one_iff.mp l
    simp [r1, hv, e]
end FT

open PySem PySem.W PyProof.Rows
set_option maxHeartbeats 0 in
theorem PySem.Challenge.cw_freshtold_k31_claims_from_claims_holds : PySem.Challenge.rw_freshtold_k31_claims_from_claims.Holds := by
  w_on; o_law; k_head; (case hw => w_witness2)
  k_fill
  refine FM.walk_M (l := PySem.Challenge.rw_freshtold_k31_claims_from_claims) (n := 63) (k := 6) (x := "_law_script") (m := fun ns => FT.m_law (FT.fuel ns)) rfl (by decide) rfl ⟨rfl, by decide, by decide⟩ (fun w h Y => PySem.W.kIn_of Y) ?F FT.law_true
  case F =>
    intro w mg fa h KX G hmg
    refine' FM.all_ex FT.fuel (FT.all_mk KX G hmg ?a_is_waiting ?l_is_waiting ?c_is_waiting ?k_is_waiting ?a_left_by ?l_left_by ?c_left_by ?k_left_by ?a_can_all_hold ?l_can_all_hold ?c_can_all_hold ?k_can_all_hold ?a_follows ?l_follows ?c_follows ?k_follows ?a_law_alike ?l_law_alike ?c_law_alike ?k_law_alike ?a_law_in_order ?l_law_in_order ?c_law_in_order ?k_law_in_order ?a_law_all_orders ?l_law_all_orders ?c_law_all_orders ?k_law_all_orders ?a_law_is_by_all ?l_law_is_by_all ?c_law_is_by_all ?k_law_is_by_all ?a_law_claims_left ?l_law_claims_left ?c_law_claims_left ?k_law_claims_left ?a_law_follows ?l_law_follows ?c_law_follows ?k_law_follows ?a_law_take ?l_law_take ?c_law_take ?k_law_take ?a_law_one ?l_law_one ?c_law_one ?k_law_one ?a_law_mixed ?l_law_mixed ?c_law_mixed ?k_law_mixed ?a_law_claim ?l_law_claim ?c_law_claim ?k_law_claim ?a_law_claims ?l_law_claims ?c_law_claims ?k_law_claims ?a_law_are_many_right ?l_law_are_many_right ?c_law_are_many_right ?k_law_are_many_right ?a_law_bag ?l_law_bag ?c_law_bag ?k_law_bag ?a_law ?l_law ?c_law ?k_law ?zabs ?zall ?zany ?zint ?zlen ?zlist ?zmax ?zrange ?zrepr ?zset ?zsorted ?ztuple)
    (case a_is_waiting => k_is); (case l_is_waiting => k_is); (case c_is_waiting => k_is); (case k_is_waiting => k_is); (case a_left_by => k_is); (case l_left_by => k_is); (case c_left_by => k_is); (case k_left_by => k_is); (case a_can_all_hold => k_is); (case l_can_all_hold => k_is); (case c_can_all_hold => k_is); (case k_can_all_hold => k_is); (case a_follows => k_is); (case l_follows => k_is); (case c_follows => k_is); (case k_follows => k_is); (case a_law_alike => k_is); (case l_law_alike => k_is); (case c_law_alike => k_is); (case k_law_alike => k_is); (case a_law_in_order => k_is); (case l_law_in_order => k_is); (case c_law_in_order => k_is); (case k_law_in_order => k_is); (case a_law_all_orders => k_is); (case l_law_all_orders => k_is); (case c_law_all_orders => k_is); (case k_law_all_orders => k_is); (case a_law_is_by_all => k_is); (case l_law_is_by_all => k_is); (case c_law_is_by_all => k_is); (case k_law_is_by_all => k_is); (case a_law_claims_left => k_is); (case l_law_claims_left => k_is); (case c_law_claims_left => k_is); (case k_law_claims_left => k_is); (case a_law_follows => k_is); (case l_law_follows => k_is); (case c_law_follows => k_is); (case k_law_follows => k_is); (case a_law_take => k_is); (case l_law_take => k_is); (case c_law_take => k_is); (case k_law_take => k_is); (case a_law_one => k_is); (case l_law_one => k_is); (case c_law_one => k_is); (case k_law_one => k_is); (case a_law_mixed => k_is); (case l_law_mixed => k_is); (case c_law_mixed => k_is); (case k_law_mixed => k_is); (case a_law_claim => k_is); (case l_law_claim => k_is); (case c_law_claim => k_is); (case k_law_claim => k_is); (case a_law_claims => k_is); (case l_law_claims => k_is); (case c_law_claims => k_is); (case k_law_claims => k_is); (case a_law_are_many_right => k_is); (case l_law_are_many_right => k_is); (case c_law_are_many_right => k_is); (case k_law_are_many_right => k_is); (case a_law_bag => k_is); (case l_law_bag => k_is); (case c_law_bag => k_is); (case k_law_bag => k_is); (case a_law => k_is); (case l_law => k_is); (case c_law => k_is); (case k_law => k_is); (case zabs => k_is); (case zall => k_is); (case zany => k_is); (case zint => k_is); (case zlen => k_is); (case zlist => k_is); (case zmax => k_is); (case zrange => k_is); (case zrepr => k_is); (case zset => k_is); (case zsorted => k_is); (case ztuple => k_is)
