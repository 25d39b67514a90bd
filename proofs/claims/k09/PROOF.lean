import PyProof.Rows.All
import Wide.All
import OpenK.AllK
import Wide.FinOn
import PySem.Challenge.RW_freshtold_k09_early_and_late_orders
import HandS.ForMost
import HandS.Walk
import HandS.TupAny
import HandS.ReCall
import PyProof.P3Statements
import PyProof.ReprReads
import HandS.Lambda
import HandS.TupMul
import HandS.Wide
import HandS.Conv
import HandS.SortInts
import HandS.SetFor
import HandS.More
import KE.KIndexOf
import HandS.EndBits
import HandS.Zip
import KE.GoesEnum
import PyProof.ListNew
import KE.KDictZip
import KE.KItemsList
import HandS.ListItems
import HandS.Style
import HandS.IsInst
import HandS.Star
import PyProof.P3Eq
import PyProof.ReprBulk
import HandS.Nested
import KE.SortData
import KE.SortKeyHeap
import KE.KNestM
set_option Elab.async false
set_option linter.all false
set_option maxRecDepth 100000
set_option autoImplicit false
/-! tuples that are told with their whole object (so that their methods are found) -/
namespace FM
open PySem PySem.Spec PyProof.Rows L2

/-- the object of a tuple, known -/
def IsTO (u : HO) (xs : List V) : Prop := ∃ o : Obj, u = .frz o (.tup xs) ∧ o.dict = none ∧ o.cls = .type "tuple"
def RTup (K : PySem.W.Frag) (H : Hp) (a : Addr) (xs : List V) : Prop :=
  (∃ u, H a = some u ∧ IsTO u xs) ∨
    ∃ (o : Obj) (its : Array Value) (n : Nat), K.lookup a = some o ∧ o.cls = .type "tuple" ∧ o.dict = none ∧ o.data = .seq its n ∧ its.size ≤ sizeLine ∧ Vals xs its.toList
theorem RTup.sqT {K : PySem.W.Frag} {H : Hp} {a : Addr} {xs : List V} (h : RTup K H a xs) : SqT K H a xs := by
  rcases h with ⟨u, h, o, e, _, _⟩ | ⟨o, its, n, h1, h2, _, h3⟩
  · exact .inl (.inr ⟨o, by rw [h, e]⟩)
  · exact .inr ⟨o, its, n, h1, h2, h3⟩
theorem RTup.of {K : PySem.W.Frag} {H : Hp} {a : Addr} {u : HO} {xs : List V} (h : H a = some u) (t : IsTO u xs) : RTup K H a xs := .inl ⟨u, h, t⟩
theorem IsTO.ne {u : HO} {xs vs : List V} (t : IsTO u xs) : u ≠ .lst vs := by
  obtain ⟨o, e, _⟩ := t
  rw [e]
  intro z; cases z

section
variable {X : Cx} {pins : List (Addr × Obj)} {σ : L2.St} {H : Hp} {s : Shared}
/-- a new tuple laid -/
theorem laidT (I : Inv X pins σ H s) {us : List Value} {xs : List V} (r : Vals xs us) (hl : xs.length ≤ sizeLine) {tk : Nat} :
    ∃ u, IsTO u xs ∧ H s.heap.objs.size = none ∧ Inv X pins σ (upd H s.heap.objs.size u) { s with heap := s.heap.push { cls := .type "tuple", data := .seq us.toArray }, toks := tk } := by
  refine ⟨.frz { cls := .type "tuple", data := .seq us.toArray } (.tup xs), ⟨_, rfl, rfl, rfl⟩, I.hok.fresh (Nat.le_refl _), ?_⟩
  refine I.laid (t' := tk) (fun b ob q => Heap.get?_push_of_some _ q) (Nat.le_refl _) ?_
  exact ⟨Heap.get?_push_size _ rfl, hl, us, r, IsTup.new _ _⟩
end
section
variable {X : Cx} {es : List Expr} {t : TA} {pos : Pos}
def tTupF (t : TA) : TE := fun σ H Q => t σ H fun xs H1 => xs.length ≤ sizeLine ∧ ∀ p u, H1 p = none → IsTO u xs → Q (.ref p) (upd H1 p u)
theorem pe_tupF {k : Nat} (h : PA X es t) : PE X (.Tuple es k pos) (tTupF t) := by
  constructor
  intro pins s σ H Q I hq
  refine wpAny_Tuple_spliced (thn (h.run pos pins s σ H _ I hq) ?_)
  intro us s1 hh
  obtain ⟨xs, H1, I1, r, z, q⟩ := hh
  obtain ⟨u, tu, hn, I2⟩ := laidT (tk := s1.toks) I1 r z
  exact ⟨by rw [← r.length]; exact z, .ref s1.heap.objs.size, _, I2, rfl, q _ u hn tu⟩
def rCatF (K : PySem.W.Frag) : R2 := fun x y H Q => ∃ a b xs ys, x = .ref a ∧ y = .ref b ∧ SqT K H a xs ∧ SqT K H b ys ∧ xs.length + ys.length ≤ sizeLine ∧
  (xs = [] → Q (.ref b) H) ∧ (ys = [] → Q (.ref a) H) ∧ ∀ p u, H p = none → IsTO u (xs ++ ys) → Q (.ref p) (upd H p u)
theorem op_catF : OpR X (binaryOp .Add) (rCatF X.K) := by
  intro pins s σ H x y v u Q I rx ry h
  obtain ⟨a, b, xs, ys, rfl, rfl, ha, hb, hz, q0, q1, q2⟩ := h
  cases rx
  cases ry
  obtain ⟨us, r1, p1, _⟩ := I.tuple ha
  obtain ⟨ws, r2, p2, _⟩ := I.tuple hb
  by_cases hx : xs = []
  · subst hx
    cases r1
    exact cat_tup0 p1 p2 ⟨.ref b, H, I, rfl, q0 rfl⟩
  · refine HT.cat_tup p1 p2 (fun z => hx (r1.nil_iff.mp z)) (fun z => ⟨.ref a, H, I, rfl, q1 (r2.nil_iff.mp z)⟩) (fun z => ?_) (by rw [← r1.length, ← r2.length]; exact hz)
    obtain ⟨u, tu, hn, I2⟩ := laidT (tk := s.toks) I (r1.append r2) (by rw [List.length_append]; exact hz)
    exact ⟨.ref s.heap.objs.size, _, I2, rfl, q2 _ u hn tu⟩
def rSlF (K : PySem.W.Frag) : V → Option Int → Option Int → Hp → VK → Prop := fun x lo hi H Q => ∃ a xs, x = .ref a ∧ SqT K H a xs ∧
  (HT.sIx xs.length 0 lo = 0 ∧ HT.sIx xs.length xs.length hi = xs.length → Q (.ref a) H) ∧ ∀ p u, H p = none → IsTO u (cutV xs lo hi) → Q (.ref p) (upd H p u)
theorem sl_tupF : SlR X (rSlF X.K) := by
  intro pins s σ H x v vl vu lo hi sl Q I rx hs pl pu h
  obtain ⟨a, xs, rfl, hx, q1, q2⟩ := h
  cases rx
  obtain ⟨its, r, ht, hz⟩ := I.tuple hx
  have hlen : its.toArray.size = xs.length := by rw [List.size_toArray]; exact r.length.symm
  refine ⟨"tuple", _, PyProof.Rows.slot_tuple_getitem.lookup, ht.typeIs, ?_⟩
  by_cases hw : HT.sIx xs.length 0 lo = 0 ∧ HT.sIx xs.length xs.length hi = xs.length
  · exact getItem_tuple_whole ht hs pl pu (by rw [hlen]; exact hw) ⟨.ref a, H, I, rfl, q1 hw⟩
  · refine HT.getItem_tuple_cut ht hs pl pu (by rw [hlen]; exact hw) ?_ (by rw [hlen]; exact hz)
    rw [hlen]
    have r2 : Vals (cutV xs lo hi) ((its.drop (HT.sIx xs.length 0 lo)).take (HT.sIx xs.length xs.length hi - HT.sIx xs.length 0 lo)) := (r.drop _).take _
    obtain ⟨u, tu, hn, I2⟩ := laidT (tk := s.toks) I r2 (Nat.le_trans (cutV_length _ _ _) hz)
    exact ⟨.ref s.heap.objs.size, _, I2, rfl, q2 _ u hn tu⟩
def rTupOf (K : PySem.W.Frag) : List V → Hp → VK → Prop := fun xs H Q => ∃ p ys, xs = [.ref p] ∧ ((SqL K H p ys ∧ ∀ l u, H l = none → IsTO u ys → Q (.ref l) (upd H l u)) ∨ (SqT K H p ys ∧ Q (.ref p) H))
theorem call_tupF : CallR X (.type "tuple") (rTupOf X.K) := by
  intro pins s σ H xs us Q I r h
  obtain ⟨p, ys, rfl, h⟩ := h
  rw [Vals.ref1 r]
  rcases h with ⟨hq, q⟩ | ⟨hq, q⟩
  · obtain ⟨its, r', pl, hz⟩ := I.list hq
    refine call_tuple_list pl.isList (fun h' kp => ?_) (by rw [List.size_toArray, ← r'.length]; exact hz)
    have I1 : Inv X pins σ H { s with heap := h' } := I.kept (t' := s.toks) kp
    obtain ⟨u, tu, hn, I2⟩ := laidT (tk := s.toks) I1 r' hz
    exact ⟨.ref h'.objs.size, _, I2, rfl, q _ u hn tu⟩
  · obtain ⟨its, r', pl, hz⟩ := I.tuple hq
    exact call_tuple_same pl ⟨.ref p, H, I, rfl, q⟩
/-- a tuple's methods are found -/
def tyTup (K : PySem.W.Frag) (x : V) (H : Hp) : Prop := ∃ p xs, x = .ref p ∧ RTup K H p xs
theorem ty_tup : TyOk X "tuple" (tyTup X.K) := by
  intro pins σ H s x v I r ty
  obtain ⟨p, xs, rfl, h⟩ := ty
  cases r
  rcases h with ⟨u, h, o, e, hd, hc⟩ | ⟨o, its, n, h1, h2, hd, h3⟩
  · subst e
    obtain ⟨e, _⟩ := I.hok p _ h
    refine ⟨⟨o, e, hc⟩, fun b e' => ?_⟩
    cases e'
    exact ⟨o, e, hd⟩
  · have e := I.kIn p o h1
    refine ⟨⟨o, e, h2⟩, fun b e' => ?_⟩
    cases e'
    exact ⟨o, e, hd⟩
end
end FM

set_option autoImplicit true
/-! What the constructs of Python say over values without a heap: a store of live lists by frames, everything else a tree. -/
namespace FM
open PySem

inductive Val where
  | non
  | bl (b : Bool)
  | int (i : Int)
  | str (s : Str)
  | tup (xs : List Val)
  /-- a list that is never changed again -/
  | lst (xs : List Val)
  /-- a list that is read only (the script) -/
  | scr (xs : List Val)
  | dct (ks vs : List Val)
  /-- a live object: its frame (from the bottom), its place -/
  | ref (f n : Nat)
  deriving Inhabited

inductive Cell where
  | lst (xs : List Val)
  | dct (ks vs : List Val)
  deriving Inhabited

abbrev S := List (List Cell)
abbrev Env := List (Option Val)
structure Exn where
  cls : String
  arg : Option Val
inductive R (α : Type) where
  | ok (a : α) (s : S)
  | ex (e : Exn) (s : S)
  | no
def R.bind {α β : Type} (r : R α) (f : α → S → R β) : R β := match r with
  | .ok a s => f a s
  | .ex e s => .ex e s
  | .no => .no
@[simp] theorem bind_ok {α β : Type} (a : α) (s : S) (f : α → S → R β) : (R.ok a s).bind f = f a s := rfl
@[simp] theorem bind_ex {α β : Type} (e : Exn) (s : S) (f : α → S → R β) : (R.ex e s : R α).bind f = .ex e s := rfl
@[simp] theorem bind_no {α β : Type} (f : α → S → R β) : (R.no : R α).bind f = .no := rfl
def ofO {α : Type} (o : Option α) (s : S) : R α := match o with
  | some a => .ok a s
  | none => .no
@[simp] theorem ofO_some {α : Type} (a : α) (s : S) : ofO (some a) s = .ok a s := rfl
@[simp] theorem ofO_none {α : Type} (s : S) : ofO (none : Option α) s = .no := rfl

/-! ### the store -/
def lk {α : Type} : List (List α) → Nat → Nat → Option α
  | [], _, _ => none
  | fr :: r, f, n => if f = r.length then fr[n]? else lk r f n
def up : S → Nat → Nat → Cell → S
  | [], _, _, _ => []
  | fr :: r, f, n, c => if f = r.length then fr.set n c :: r else fr :: up r f n c

mutual
/-- no live object within, no dict -/
def pure : Val → Bool
  | .ref _ _ => false
  | .dct _ _ => false
  | .tup xs => pureAll xs
  | .lst xs => pureAll xs
  | .scr xs => pureAll xs
  | .non => true
  | .bl _ => true
  | .int _ => true
  | .str z => PyData.strOk z
def pureAll : List Val → Bool
  | [] => true
  | x :: xs => pure x && pureAll xs
end
mutual
/-- no live object of a frame from k on -/
def below (k : Nat) : Val → Bool
  | .ref f _ => decide (f < k)
  | .dct ks vs => belowAll k ks && belowAll k vs
  | .tup xs => belowAll k xs
  | .lst xs => belowAll k xs
  | .scr xs => belowAll k xs
  | .non => true
  | .bl _ => true
  | .int _ => true
  | .str _ => true
def belowAll (k : Nat) : List Val → Bool
  | [] => true
  | x :: xs => below k x && belowAll k xs
end
mutual
def toD : Val → PyData
  | .non => .none
  | .bl b => .bool b
  | .int i => .int i
  | .str s => .str s
  | .tup xs => .tuple (toDs xs)
  | .lst xs => .list (toDs xs)
  | .scr xs => .list (toDs xs)
  | .dct ks vs => .dict ((toDs ks).zip (toDs vs))
  | .ref _ _ => .none
def toDs : List Val → List PyData
  | [] => []
  | x :: xs => toD x :: toDs xs
end
mutual
def beqV : Val → Val → Bool
  | .non, .non => true
  | .bl a, .bl b => a == b
  | .int a, .int b => a == b
  | .str a, .str b => a == b
  | .tup a, .tup b => beqVs a b
  | .lst a, .lst b => beqVs a b
  | .scr a, .scr b => beqVs a b
  | .dct a b, .dct c d => beqVs a c && beqVs b d
  | .ref a b, .ref c d => a == c && b == d
  | _, _ => false
def beqVs : List Val → List Val → Bool
  | [], [] => true
  | x :: xs, y :: ys => beqV x y && beqVs xs ys
  | _, _ => false
end

/-- a live or a dead list -/
def asL (s : S) : Val → Option (List Val)
  | .lst xs => some xs
  | .scr xs => some xs
  | .ref f n => match lk s f n with
    | some (.lst xs) => some xs
    | _ => none
  | _ => none
def asT : Val → Option (List Val)
  | .tup xs => some xs
  | _ => none
def asQ (s : S) (v : Val) : Option (List Val) := match v with
  | .tup xs => some xs
  | v => asL s v
/-- live objects within are read -/
def res (s : S) : Nat → Val → Option Val
  | 0, v => if pure v = true then some v else none
  | k + 1, v => if pure v = true then some v else match v with
    | .ref f n => match lk s f n with
      | some (.lst xs) => (xs.mapM (res s k)).map .lst
      | _ => none
    | .tup xs => (xs.mapM (res s k)).map .tup
    | .lst xs => (xs.mapM (res s k)).map .lst
    | _ => none

/-! ### operators by values -/
def veq (a b : Val) : Bool := PyData.eqv (toD a) (toD b)
def shallow (a b : Val) : Bool := decide (min (toD a).depth (toD b).depth ≤ 64)
def opEq (s : S) (x y : Val) : Option Val := match x, y with
  | .str a, .str b => some (.bl (decide (a = b)))
  | x, y => match res s 8 x, res s 8 y with
    | some a, some b => if shallow a b = true then some (.bl (veq a b)) else none
    | _, _ => none
def opNe (s : S) (x y : Val) : Option Val := match x, y with
  | .str a, .str b => some (.bl (!decide (a = b)))
  | x, y => match res s 8 x, res s 8 y with
    | some a, some b => if shallow a b = true then some (.bl (!veq a b)) else none
    | _, _ => none
def opAdd (s : S) (x y : Val) : Option Val := match x, y with
  | .int i, .int j => some (.int (i + j))
  | .str a, .str b => if a.length + b.length ≤ sizeLine then some (.str (a ++ b)) else none
  | .tup a, .tup b => if a.length + b.length ≤ sizeLine then some (.tup (a ++ b)) else none
  | _, _ => none
def opSub (s : S) (x y : Val) : Option Val := match x, y with
  | .int i, .int j => some (.int (i - j))
  | _, _ => none
def opMul (s : S) (x y : Val) : Option Val := match x, y with
  | .int i, .int j => if i.natAbs < 2 ^ 64 ∨ j.natAbs < 2 ^ 64 then some (.int (i * j)) else none
  | _, _ => none
def opMod (s : S) (x y : Val) : Option Val := match x, y with
  | .int i, .int j => if 0 < j then some (.int (i % j)) else none
  | _, _ => none
def opDiv (s : S) (x y : Val) : Option Val := match x, y with
  | .int i, .int j => if 0 < j ∧ j < 2 ^ 30 then some (.int (i / j)) else none
  | _, _ => none
def opPow (s : S) (x y : Val) : Option Val := match x, y with
  | .int i, .int j => if 0 ≤ j ∧ j ≤ 1000000 ∧ i.natAbs < 2 ^ 64 then some (.int (i ^ j.toNat)) else none
  | _, _ => none
def opI (f : Int → Int → Bool) (s : S) (x y : Val) : Option Val := match x, y with
  | .int i, .int j => some (.bl (f i j))
  | _, _ => none
def opLt := opI fun i j => decide (i < j)
def opLe := opI fun i j => decide (i ≤ j)
def opGt := opI fun i j => decide (j < i)
def opGe := opI fun i j => decide (j ≤ i)
/-- x in y -/
def inQ (s : S) (x y : Val) : Option Bool := match asQ s y with
  | some xs => match res s 8 x, xs.mapM (res s 8) with
    | some a, some ys => if shallow (.lst ys) a = true then some (ys.any fun z => veq z a) else none
    | _, _ => none
  | none => none
def opIn (s : S) (x y : Val) : Option Val := (inQ s x y).map .bl
def opNotIn (s : S) (x y : Val) : Option Val := (inQ s x y).map fun b => .bl (!b)
def ixN (n : Nat) (i : Int) : Option Nat := if 0 ≤ i then (if i < n then some i.toNat else none) else if -(n : Int) ≤ i then some (i + n).toNat else none
def opIx (s : S) (x y : Val) : Option Val := match asQ s x, y with
  | some xs, .int i => (ixN xs.length i).bind fun j => xs[j]?
  | _, _ => none
def sIx (n d : Nat) : Option Int → Nat
  | none => d
  | some v => if v < 0 then (v + (n : Int)).toNat else min v.toNat n
def cutL {α : Type} (xs : List α) (lo hi : Option Int) : List α := (xs.drop (sIx xs.length 0 lo)).take (sIx xs.length xs.length hi - sIx xs.length 0 lo)

/-! ### expressions -/
abbrev Ex := Env → S → R Val
abbrev Tx := Env → S → R Bool
abbrev Ax := Env → S → R (List Val)
/-- an expression that makes a new list -/
abbrev Fx := Env → S → R (List Val)
def eVar (i : Nat) : Ex := fun ρ s => match ρ[i]? with
  | some (some v) => .ok v s
  | _ => .no
def eC (v : Val) : Ex := fun _ s => .ok v s
def eOp (f : S → Val → Val → Option Val) (a b : Ex) : Ex := fun ρ s => (a ρ s).bind fun x s1 => (b ρ s1).bind fun y s2 => ofO (f s2 x y) s2
def eOp1 (f : S → Val → Option Val) (a : Ex) : Ex := fun ρ s => (a ρ s).bind fun x s1 => ofO (f s1 x) s1
def aNil : Ax := fun _ s => .ok [] s
def aCons (a : Ex) (r : Ax) : Ax := fun ρ s => (a ρ s).bind fun x s1 => (r ρ s1).bind fun xs s2 => .ok (x :: xs) s2
def eTup (a : Ax) : Ex := fun ρ s => (a ρ s).bind fun xs s1 => .ok (.tup xs) s1
def eIf (c : Tx) (a b : Ex) : Ex := fun ρ s => (c ρ s).bind fun t s1 => if t = true then a ρ s1 else b ρ s1
def eAnd (a b : Ex) : Ex := fun ρ s => (a ρ s).bind fun x s1 => match x with
  | .bl true => b ρ s1
  | .bl false => .ok (.bl false) s1
  | _ => .no
def eOr (a b : Ex) : Ex := fun ρ s => (a ρ s).bind fun x s1 => match x with
  | .bl true => .ok (.bl true) s1
  | .bl false => b ρ s1
  | _ => .no
def eNot (a : Ex) : Ex := fun ρ s => (a ρ s).bind fun x s1 => match x with
  | .bl b => .ok (.bl (!b)) s1
  | _ => .no
def isN : Val → Bool
  | .non => true
  | _ => false
def eIsN (a : Ex) : Ex := fun ρ s => (a ρ s).bind fun x s1 => .ok (.bl (isN x)) s1
def eNotN (a : Ex) : Ex := fun ρ s => (a ρ s).bind fun x s1 => .ok (.bl (!isN x)) s1
/-- a op b op' c -/
def eChain (f g : S → Val → Val → Option Val) (a b c : Ex) : Ex := fun ρ s => (a ρ s).bind fun x s1 => (b ρ s1).bind fun y s2 => (ofO (f s2 x y) s2).bind fun t s3 => match t with
  | .bl true => (c ρ s3).bind fun z s4 => ofO (g s4 y z) s4
  | .bl false => .ok (.bl false) s3
  | _ => .no
/-- builtins by values -/
def eCall (f : S → List Val → Option Val) (a : Ax) : Ex := fun ρ s => (a ρ s).bind fun xs s1 => ofO (f s1 xs) s1
abbrev Ox := Env → S → R (Option Int)
def oNone : Ox := fun _ s => .ok none s
def oSome (a : Ex) : Ox := fun ρ s => (a ρ s).bind fun x s1 => match x with
  | .int i => .ok (some i) s1
  | _ => .no
/-- a tuple's slice -/
def eSlT (a : Ex) (lo hi : Ox) : Ex := fun ρ s => (a ρ s).bind fun x s1 => (lo ρ s1).bind fun l s2 => (hi ρ s2).bind fun h s3 => match x with
  | .tup xs => .ok (.tup (cutL xs l h)) s3
  | _ => .no
/-- a list's slice: a new list -/
def fSl (a : Ex) (lo hi : Ox) : Fx := fun ρ s => (a ρ s).bind fun x s1 => (lo ρ s1).bind fun l s2 => (hi ρ s2).bind fun h s3 => match asL s3 x with
  | some xs => .ok (cutL xs l h) s3
  | none => .no

/-! ### tests -/
def tVal (a : Ex) : Tx := fun ρ s => (a ρ s).bind fun x s1 => match x with
  | .bl b => .ok b s1
  | _ => .no
def tAnd (a b : Tx) : Tx := fun ρ s => (a ρ s).bind fun x s1 => if x = true then b ρ s1 else .ok false s1
def tOr (a b : Tx) : Tx := fun ρ s => (a ρ s).bind fun x s1 => if x = true then .ok true s1 else b ρ s1
def tNot (a : Tx) : Tx := fun ρ s => (a ρ s).bind fun x s1 => .ok (!x) s1
def tYes : Tx := fun _ s => .ok true s

/-! ### targets -/
abbrev Gx := Val → Env → Option Env
def gName (i : Nat) : Gx := fun v ρ => some (ρ.set i (some v))
def gAll : List Gx → List Val → Env → Option Env
  | [], [], ρ => some ρ
  | g :: gs, v :: vs, ρ => match g v ρ with
    | some ρ1 => gAll gs vs ρ1
    | none => none
  | _, _, _ => none
def gTup (gs : List Gx) : Gx := fun v ρ => match v with
  | .tup xs => gAll gs xs ρ
  | _ => none

/-! ### what is walked -/
abbrev Ix := Env → S → R (List Val × (S → Bool))
def still (v : Val) (xs : List Val) : S → Bool := match v with
  | .ref f n => fun s => match lk s f n with
    | some (.lst ys) => beqVs ys xs
    | _ => false
  | _ => fun _ => true
def iSeq (a : Ex) : Ix := fun ρ s => (a ρ s).bind fun x s1 => match asQ s1 x with
  | some xs => .ok (xs, still x xs) s1
  | none => .no
def rangeV (lo : Int) (n : Nat) : List Val := (List.range n).map fun (i : Nat) => .int (lo + (i : Int))
def iRange1 (a : Ex) : Ix := fun ρ s => (a ρ s).bind fun x s1 => match x with
  | .int n => if -(2 ^ 60) < n ∧ n ≤ sizeLine then .ok (rangeV 0 n.toNat, fun _ => true) s1 else .no
  | _ => .no
def iRange2 (a b : Ex) : Ix := fun ρ s => (a ρ s).bind fun x s1 => (b ρ s1).bind fun y s2 => match x, y with
  | .int m, .int n => if -(2 ^ 60) < m ∧ m < 2 ^ 60 ∧ -(2 ^ 60) < n ∧ n < 2 ^ 60 ∧ n - m ≤ sizeLine then .ok (rangeV m (n - m).toNat, fun _ => true) s2 else .no
  | _, _ => .no
def iEnum (a : Ex) : Ix := fun ρ s => (a ρ s).bind fun x s1 => match asQ s1 x with
  | some xs => .ok ((xs.zipIdx).map fun p => .tup [.int p.2, p.1], still x xs) s1
  | none => .no
def iZip (a b : Ex) : Ix := fun ρ s => (a ρ s).bind fun x s1 => (b ρ s1).bind fun y s2 => match asQ s2 x, asQ s2 y with
  | some xs, some ys => .ok ((xs.zip ys).map fun p => .tup [p.1, p.2], fun s => still x xs s && still y ys s) s2
  | _, _ => .no

/-! ### comprehensions -/
def compL (keep : S → Bool) (g : Gx) (t : Tx) (e : Ex) (ρ : Env) : List Val → List Val → S → R (List Val)
  | [], acc, s => if keep s = true then .ok acc s else .no
  | x :: xs, acc, s => if keep s = true then match g x ρ with
      | some ρ1 => (t ρ1 s).bind fun b s1 => if b = true then (e ρ1 s1).bind fun y s2 => compL keep g t e ρ xs (acc ++ [y]) s2 else compL keep g t e ρ xs acc s1
      | none => .no
    else .no
def wipe (ρ : Env) : List Nat → Env
  | [] => ρ
  | v :: vs => (wipe ρ vs).set v none
def R.nox {α : Type} (r : R α) : R α := match r with
  | .ok a s => .ok a s
  | _ => .no
@[simp] theorem nox_ok {α : Type} (a : α) (s : S) : (R.ok a s).nox = .ok a s := rfl
def fComp (it : Ix) (own : List Nat) (g : Gx) (t : Tx) (e : Ex) : Fx := fun ρ s => (it ρ s).bind fun p s1 => (compL p.2 g t e (wipe ρ own) p.1 [] s1).nox
def fLst (a : Ax) : Fx := a
/-- list(range(n)) -/
def fRange (a : Ex) : Fx := fun ρ s => (a ρ s).bind fun x s1 => match x with
  | .int n => if -(2 ^ 60) < n ∧ n ≤ sizeLine then .ok (rangeV 0 n.toNat) s1 else .no
  | _ => .no
/-- list(x) -/
def fList (a : Ex) : Fx := fun ρ s => (a ρ s).bind fun x s1 => match asQ s1 x with
  | some xs => .ok xs s1
  | none => .no
/-- a list that is not the script -/
def asLn (s : S) (v : Val) : Option (List Val) := match v with
  | .scr _ => none
  | v => asL s v
theorem asLn_asL {s : S} {v : Val} {xs : List Val} (h : asLn s v = some xs) : asL s v = some xs := by
  unfold asLn at h
  split at h
  · cases h
  · exact h
def fAdd (a b : Ex) : Fx := fun ρ s => (a ρ s).bind fun x s1 => (b ρ s1).bind fun y s2 => match asLn s2 x, asLn s2 y with
  | some xs, some ys => if xs.length + ys.length ≤ sizeLine then .ok (xs ++ ys) s2 else .no
  | _, _ => .no
def fMul (a b : Ex) : Fx := fun ρ s => (a ρ s).bind fun x s1 => (b ρ s1).bind fun y s2 => match asLn s2 x, y with
  | some xs, .int j => if -(2 ^ 63) ≤ j ∧ j < 2 ^ 63 ∧ xs.length * j.toNat ≤ sizeLine then .ok (List.replicate j.toNat xs).flatten s2 else .no
  | _, _ => .no
def intsOf : List Val → Option (List Int)
  | [] => some []
  | .int i :: r => (intsOf r).map (i :: ·)
  | _ => none
def sortI (ns : List Int) : List Int := ns.mergeSort fun a b => decide (a ≤ b)
/-- sorted(list of ints) -/
def fSortedI (a : Ex) : Fx := fun ρ s => (a ρ s).bind fun x s1 => match (asL s1 x).bind intsOf with
  | some ns => .ok ((sortI ns).map .int) s1
  | none => .no
/-- a new list, dead at once -/
def eDead (f : Fx) : Ex := fun ρ s => (f ρ s).bind fun xs s1 => .ok (.lst xs) s1
def pushC (c : Cell) : S → R Val
  | fr :: r => .ok (.ref r.length fr.length) ((fr ++ [c]) :: r)
  | [] => .no
/-- a new list that lives -/
def eLive (f : Fx) : Ex := fun ρ s => (f ρ s).bind fun xs s1 => pushC (.lst xs) s1
/-- tuple(a new list), tuple(x) -/
def eTupleF (f : Fx) : Ex := fun ρ s => (f ρ s).bind fun xs s1 => .ok (.tup xs) s1

/-! ### builtins by values -/
def bLen (s : S) : List Val → Option Val
  | [.str x] => if x.length ≤ sizeLine then some (.int x.length) else none
  | [x] => (asQ s x).map fun xs => .int xs.length
  | _ => none
def bAbs (s : S) : List Val → Option Val
  | [.int i] => some (.int (if i < 0 then -i else i))
  | _ => none
def bInt (s : S) : List Val → Option Val
  | [.int i] => some (.int i)
  | [.bl b] => some (.int (if b = true then 1 else 0))
  | _ => none
def bTuple (s : S) : List Val → Option Val
  | [x] => (asQ s x).map .tup
  | _ => none
def bSum (s : S) : List Val → Option Val
  | [x] => ((asL s x).bind intsOf).map fun ns => .int ns.sum
  | _ => none
def maxI : List Int → Option Int
  | [] => none
  | n :: ns => some (ns.foldl max n)
def bMax (s : S) : List Val → Option Val
  | [x] => (((asL s x).bind intsOf).bind maxI).map .int
  | _ => none
def boolsOf : List Val → Option (List Bool)
  | [] => some []
  | .bl b :: r => (boolsOf r).map (b :: ·)
  | _ => none
def bAll (s : S) : List Val → Option Val
  | [x] => ((asL s x).bind boolsOf).map fun bs => .bl (bs.all id)
  | _ => none
def bAny (s : S) : List Val → Option Val
  | [x] => ((asL s x).bind boolsOf).map fun bs => .bl (bs.any id)
  | _ => none
def bRepr (s : S) : List Val → Option Val
  | [x] => match res s 8 x with
    | some a => if (toD a).showable = true ∧ (toD a).shown.length ≤ sizeLine ∧ (toD a).depth ≤ 64 then some (.str (toD a).shown) else none
    | none => none
  | _ => none
/-- xs.index(k), of ints, there -/
def bIndexT (s : S) (x : Val) : List Val → Option Val
  | [.int k] => match (asT x).bind intsOf with
    | some ns => if k ∈ ns then some (.int (ns.idxOf k : Nat)) else none
    | none => none
  | _ => none
def bIndex (s : S) (x : Val) : List Val → Option Val
  | [.int k] => match (asL s x).bind intsOf with
    | some ns => if k ∈ ns then some (.int (ns.idxOf k : Nat)) else none
    | none => none
  | _ => none
/-- methods of lists that do not change them -/
def eMeth (f : S → Val → List Val → Option Val) (o : Ex) (a : Ax) : Ex := fun ρ s => (o ρ s).bind fun x s1 => if (asL s1 x).isSome = true then (a ρ s1).bind fun xs s2 => ofO (f s2 x xs) s2 else .no
/-- of tuples -/
def eMethT (f : S → Val → List Val → Option Val) (o : Ex) (a : Ax) : Ex := fun ρ s => (o ρ s).bind fun x s1 => if (asT x).isSome = true then (a ρ s1).bind fun xs s2 => ofO (f s2 x xs) s2 else .no
/-- methods of a live list that change it -/
def chg (s : S) (x : Val) (f : List Val → Option (List Val)) (new : List Val) : R Val := match x with
  | .ref k n => match lk s k n with
    | some (.lst xs) => match f xs with
      | some ys => if k + 1 = s.length ∨ belowAll (k + 1) new = true then .ok .non (up s k n (.lst ys)) else .no
      | none => .no
    | _ => .no
  | _ => .no
def isL (s : S) (v : Val) : Bool := (asL s v).isSome
def eChg (f : S → List Val → List Val → Option (List Val)) (o : Ex) (a : Ax) : Ex := fun ρ s => (o ρ s).bind fun x s1 => if isL s1 x = true then (a ρ s1).bind fun xs s2 => chg s2 x (f s2 xs) xs else .no
def cAppend (s : S) : List Val → List Val → Option (List Val)
  | [y], xs => if xs.length < sizeLine then some (xs ++ [y]) else none
  | _, _ => none
def cInsert (s : S) : List Val → List Val → Option (List Val)
  | [.int i, y], xs => if xs.length < sizeLine ∧ 0 ≤ i ∧ i < 2 ^ 63 then some (xs.take i.toNat ++ [y] ++ xs.drop i.toNat) else none
  | _, _ => none
def remI (k : Int) (ns : List Int) : Option (List Int) := if k ∈ ns then some (ns.eraseIdx (ns.idxOf k)) else none
/-- xs.remove(k), of ints, there -/
def cRemove (s : S) : List Val → List Val → Option (List Val)
  | [.int k], xs => ((intsOf xs).bind (remI k)).map fun ns => ns.map .int
  | _, _ => none
/-- xs.extend(a new list) -/
def eExtend (o : Ex) (f : Fx) : Ex := fun ρ s => (o ρ s).bind fun x s1 => if isL s1 x = true then (f ρ s1).bind fun ys s2 => chg s2 x (fun xs => if xs.length + ys.length ≤ sizeLine then some (xs ++ ys) else none) ys else .no
/-- xs.extend(ys), ys a list that stands -/
def cExtend (s : S) : List Val → List Val → Option (List Val)
  | [y], xs => match asLn s y with
    | some ys => if xs.length + ys.length ≤ sizeLine then some (xs ++ ys) else none
    | none => none
  | _, _ => none

/-! ### statements -/
inductive F where
  | nx (ρ : Env) (s : S)
  | rt (v : Val) (s : S)
  | bk (ρ : Env) (s : S)
  | ct (ρ : Env) (s : S)
  | ex (e : Exn) (s : S)
  | no
abbrev Sx := Env → S → F
def R.seq {α : Type} (r : R α) (f : α → S → F) : F := match r with
  | .ok a s => f a s
  | .ex e s => .ex e s
  | .no => .no
@[simp] theorem seq_ok {α : Type} (a : α) (s : S) (f : α → S → F) : (R.ok a s).seq f = f a s := rfl
@[simp] theorem seq_ex {α : Type} (e : Exn) (s : S) (f : α → S → F) : (R.ex e s : R α).seq f = .ex e s := rfl
@[simp] theorem seq_no {α : Type} (f : α → S → F) : (R.no : R α).seq f = .no := rfl
def F.then (r : F) (f : Env → S → F) : F := match r with
  | .nx ρ s => f ρ s
  | r => r
@[simp] theorem then_nx (ρ : Env) (s : S) (f : Env → S → F) : (F.nx ρ s).then f = f ρ s := rfl
@[simp] theorem then_rt (v : Val) (s : S) (f : Env → S → F) : (F.rt v s).then f = .rt v s := rfl
@[simp] theorem then_bk (ρ : Env) (s : S) (f : Env → S → F) : (F.bk ρ s).then f = .bk ρ s := rfl
@[simp] theorem then_ct (ρ : Env) (s : S) (f : Env → S → F) : (F.ct ρ s).then f = .ct ρ s := rfl
@[simp] theorem then_ex (e : Exn) (s : S) (f : Env → S → F) : (F.ex e s).then f = .ex e s := rfl
@[simp] theorem then_no (f : Env → S → F) : F.no.then f = .no := rfl
def sNil : Sx := fun ρ s => .nx ρ s
def sCons (a r : Sx) : Sx := fun ρ s => (a ρ s).then r
def sAsg (e : Ex) (g : Gx) : Sx := fun ρ s => (e ρ s).seq fun v s1 => match g v ρ with
  | some ρ1 => .nx ρ1 s1
  | none => .no
/-- a, b = x, y -/
def sPar (i j : Nat) (a b : Ex) : Sx := fun ρ s => (a ρ s).seq fun x s1 => (b ρ s1).seq fun y s2 => .nx ((ρ.set i (some x)).set j (some y)) s2
def sExpr (e : Ex) : Sx := fun ρ s => (e ρ s).seq fun _ s1 => .nx ρ s1
def sRet (e : Ex) : Sx := fun ρ s => (e ρ s).seq fun v s1 => .rt v s1
def sIf (c : Tx) (a b : Sx) : Sx := fun ρ s => (c ρ s).seq fun t s1 => if t = true then a ρ s1 else b ρ s1
/-- xs[i] = e of a live list -/
def setL (s : S) (x i v : Val) : Option S := match x, i with
  | .ref k n, .int j => match lk s k n with
    | some (.lst xs) => match ixN xs.length j with
      | some m => if k + 1 = s.length ∨ below (k + 1) v = true then some (up s k n (.lst (xs.set m v))) else none
      | none => none
    | _ => none
  | _, _ => none
def sSub (o i e : Ex) : Sx := fun ρ s => (e ρ s).seq fun v s1 => (o ρ s1).seq fun x s2 => (i ρ s2).seq fun y s3 => match setL s3 x y v with
  | some s4 => .nx ρ s4
  | none => .no
/-- xs[i], 0 ≤ i, of a list -/
def opIxN (s : S) (x y : Val) : Option Val := match y with
  | .int i => if 0 ≤ i then (match asL s x with
    | some xs => (ixN xs.length i).bind fun j => xs[j]?
    | none => none) else none
  | _ => none
def opAddI (s : S) (x y : Val) : Option Val := match x, y with
  | .int i, .int j => some (.int (i + j))
  | _, _ => none
/-- xs[i] op= e -/
def sAugSub (f : S → Val → Val → Option Val) (o i e : Ex) : Sx := fun ρ s => (o ρ s).seq fun x s1 => (i ρ s1).seq fun y s2 => (ofO (opIxN s2 x y) s2).seq fun old s3 => (e ρ s3).seq fun v s4 => (ofO (f s4 old v) s4).seq fun w s5 =>
  match setL s5 x y w with
  | some s6 => .nx ρ s6
  | none => .no
/-- x op= e -/
def sAug (i : Nat) (f : S → Val → Val → Option Val) (e : Ex) : Sx := fun ρ s => match ρ[i]? with
  | some (some x) => (e ρ s).seq fun y s1 => (ofO (f s1 x y) s1).seq fun z s2 => .nx (ρ.set i (some z)) s2
  | _ => .no
def sPass : Sx := fun ρ s => .nx ρ s
def sBrk : Sx := fun ρ s => .bk ρ s
def sCnt : Sx := fun ρ s => .ct ρ s
def forL (keep : S → Bool) (g : Gx) (b : Sx) : List Val → Sx
  | [], ρ, s => if keep s = true then .nx ρ s else .no
  | x :: xs, ρ, s => if keep s = true then match g x ρ with
      | some ρ1 => match b ρ1 s with
        | .nx ρ2 s2 => forL keep g b xs ρ2 s2
        | .ct ρ2 s2 => forL keep g b xs ρ2 s2
        | .bk ρ2 s2 => .nx ρ2 s2
        | .rt v s2 => .rt v s2
        | .ex e s2 => .ex e s2
        | .no => .no
      | none => .no
    else .no
def sFor (it : Ix) (g : Gx) (b : Sx) : Sx := fun ρ s => (it ρ s).seq fun p s1 => forL p.2 g b p.1 ρ s1
def whileL (c : Tx) (b : Sx) : Nat → Sx
  | 0, _, _ => .no
  | n + 1, ρ, s => (c ρ s).seq fun t s1 => if t = true then match b ρ s1 with
      | .nx ρ2 s2 => whileL c b n ρ2 s2
      | .ct ρ2 s2 => whileL c b n ρ2 s2
      | .bk ρ2 s2 => .nx ρ2 s2
      | .rt v s2 => .rt v s2
      | .ex e s2 => .ex e s2
      | .no => .no
    else .nx ρ s1
def sWhile (n : Nat) (c : Tx) (b : Sx) : Sx := whileL c b n

/-! ### defs -/
inductive Ret where
  | val (v : Val)
  | cell (c : Cell)
/-- live objects of the frame d are read off -/
def frz (d : Nat) (fr : List Cell) : Nat → Val → Option Val
  | 0, v => if below d v = true then some v else none
  | k + 1, v => if below d v = true then some v else match v with
    | .ref f n => if f = d then (match fr[n]? with
      | some (.lst xs) => (xs.mapM (frz d fr k)).map .lst
      | _ => none) else none
    | .tup xs => (xs.mapM (frz d fr k)).map .tup
    | .lst xs => (xs.mapM (frz d fr k)).map .lst
    | _ => none
def retOf (d : Nat) (fr : List Cell) (v : Val) : Option Ret := match v with
  | .ref f n => if f = d then (match fr[n]? with
    | some (.lst xs) => if belowAll d xs = true then some (.cell (.lst xs)) else (frz d fr 8 (.ref f n)).map .val
    | _ => none) else some (.val (.ref f n))
  | v => (frz d fr 8 v).map .val
abbrev Fn := List Val → S → R Ret
def finish (v : Val) : S → R Ret
  | fr :: r => ofO (retOf r.length fr v) r
  | [] => .no
def mkFn (n np : Nat) (body : Sx) : Fn := fun args s => if args.length = np then match body (args.map some ++ List.replicate (n - np) none) ([] :: s) with
    | .rt v s1 => finish v s1
    | .nx _ s1 => finish .non s1
    | _ => .no
  else .no
/-- a call whose new list is dead at once -/
def eFn (f : Fn) (a : Ax) : Ex := fun ρ s => (a ρ s).bind fun xs s1 => (f xs s1).bind fun r s2 => match r with
  | .val v => .ok v s2
  | .cell (.lst ys) => .ok (.lst ys) s2
  | .cell (.dct _ _) => .no
/-- .. lives on -/
def eFnL (f : Fn) (a : Ax) : Ex := fun ρ s => (a ρ s).bind fun xs s1 => (f xs s1).bind fun r s2 => match r with
  | .val v => .ok v s2
  | .cell (.lst ys) => pushC (.lst ys) s2
  | .cell (.dct _ _) => .no
end FM

/-! how values stand in the abstract heap -/
namespace FM
open PySem PySem.Spec PyProof.Rows L2

/-- the tables of code objects that are kept, each with the name of what it makes -/
class Tbl where
  T : List (Addr × PySem.Str)
/-- the live addresses by frames; those that are hidden (a list that is being made) -/
structure Mu where
  fr : List (List Addr)
  hid : Addr → Prop
def Off (μ : Mu) (a : Addr) : Prop := (∀ f ∈ μ.fr, a ∉ f) ∧ ¬ μ.hid a

mutual
def Rep (K : PySem.W.Frag) (H : Hp) (μ : Mu) : Val → V → Prop
  | .non, x => x = .non
  | .bl b, x => x = .bl b
  | .int i, x => x = .int i
  | .str s, x => x = .str s
  | .tup xs, x => ∃ a vs, x = .ref a ∧ RTup K H a vs ∧ vs.length ≤ sizeLine ∧ RepAll K H μ xs vs
  | .lst xs, x => ∃ a vs, x = .ref a ∧ H a = some (.lst vs) ∧ Off μ a ∧ vs.length ≤ sizeLine ∧ RepAll K H μ xs vs
  | .scr xs, x => ∃ a vs, x = .ref a ∧ ((Rd H a (.lst vs) ∧ Off μ a) ∨ ∀ H', SqL K H' a vs) ∧ vs.length ≤ sizeLine ∧ RepAll K H μ xs vs
  | .dct _ _, _ => False
  | .ref f n, x => ∃ a, x = .ref a ∧ lk μ.fr f n = some a
def RepAll (K : PySem.W.Frag) (H : Hp) (μ : Mu) : List Val → List V → Prop
  | [], vs => vs = []
  | x :: xs, vs => ∃ w ws, vs = w :: ws ∧ Rep K H μ x w ∧ RepAll K H μ xs ws
end
def CellRep (K : PySem.W.Frag) (H : Hp) (μ : Mu) (a : Addr) : Cell → Prop
  | .lst xs => ∃ vs, H a = some (.lst vs) ∧ vs.length ≤ sizeLine ∧ RepAll K H μ xs vs
  | .dct _ _ => False
def belowC (k : Nat) : Cell → Bool
  | .lst xs => belowAll k xs
  | .dct ks vs => belowAll k ks && belowAll k vs

structure Mem [Tbl] (K : PySem.W.Frag) (H : Hp) (μ : Mu) (s : S) : Prop where
  shp : μ.fr.map List.length = s.map List.length
  nd : μ.fr.flatten.Nodup
  sep : ∀ f ∈ μ.fr, ∀ a ∈ f, ¬ μ.hid a
  cel : ∀ f n a c, lk μ.fr f n = some a → lk s f n = some c → CellRep K H μ a c
  bel : ∀ f n c, lk s f n = some c → belowC (f + 1) c = true
  hd : ∀ a, μ.hid a → ∃ vs, H a = some (.lst vs)
  tb : LamX.Tabs Tbl.T H

def exts (b : List Addr) : List (List Addr) → List (List Addr)
  | [] => []
  | fr :: r => (fr ++ b) :: r
/-- a hidden address comes to live -/
def Mu.ext (a : Addr) (μ : Mu) : Mu := { μ with fr := exts [a] μ.fr }
def Mu.hide (a : Addr) (μ : Mu) : Mu := { μ with hid := fun x => x = a ∨ μ.hid x }
def Mu.show (a : Addr) (μ : Mu) : Mu := { μ with hid := fun x => x ≠ a ∧ μ.hid x }
structure Grow (μ : Mu) (H : Hp) (μ' : Mu) (H' : Hp) : Prop where
  ext : ∃ b, μ'.fr = exts b μ.fr ∧ ∀ x ∈ b, H x = none
  hid : ∀ x, μ'.hid x → H x = none ∨ μ.hid x
  hs : ∀ x, μ.hid x → μ'.hid x
  kp : ∀ a o, Off μ a → H a = some o → (∀ ps, o ≠ .tbl ps) → H' a = some o
  lv : ∀ f ∈ μ.fr, ∀ a ∈ f, ∃ o, H' a = some o
  hk : ∀ a, μ.hid a → H' a = H a
  tk : ∀ a ps, H a = some (.tbl ps) → ∃ qs, H' a = some (.tbl qs)
theorem tabs_new {T : List (Addr × PySem.Str)} {H : Hp} {p : Addr} {o : HO} (t : LamX.Tabs T H) (hp : H p = none) : LamX.Tabs T (upd H p o) := t.ext fun b u e => by rw [upd_ne (ne_of_none e hp)]; exact e
theorem tabs_keep {T : List (Addr × PySem.Str)} {H H' : Hp} (t : LamX.Tabs T H) (h : ∀ b o, H b = some o → (∀ vs, o ≠ .lst vs) → H' b = some o) : LamX.Tabs T H' := fun q hq => by
  obtain ⟨ps, h1, h2, h3⟩ := t q hq
  refine ⟨ps, h _ _ h1 (fun _ z => by cases z), h2, fun pos cv hc => ?_⟩
  obtain ⟨c, e1, e2⟩ := h3 pos cv hc
  exact ⟨c, e1, h _ _ e2 (fun _ z => by unfold LamX.CodeO at z; cases z)⟩
theorem tabs_lst {T : List (Addr × PySem.Str)} {H : Hp} {a : Addr} {vs ws : List V} (t : LamX.Tabs T H) (ha : H a = some (.lst vs)) : LamX.Tabs T (upd H a (.lst ws)) := tabs_keep t fun b o e n => by
  rw [upd_ne (fun z => n vs (by rw [z, ha] at e; exact (Option.some.inj e).symm))]; exact e

section
variable [Tbl] {K : PySem.W.Frag} {H H1 H2 H' : Hp} {μ μ1 μ2 μ' : Mu} {s s' : S}

theorem lk_lt {α : Type} : ∀ {l : List (List α)} {f n : Nat} {x : α}, lk l f n = some x → f < l.length
  | [], _, _, _, h => by simp [lk] at h
  | fr :: r, f, n, x, h => by
    unfold lk at h
    split at h
    · rename_i e; subst e; simp
    · have := lk_lt h; simp; omega
theorem lk_mem {α : Type} : ∀ {l : List (List α)} {f n : Nat} {x : α}, lk l f n = some x → ∃ fr ∈ l, x ∈ fr
  | [], _, _, _, h => by simp [lk] at h
  | fr :: r, f, n, x, h => by
    unfold lk at h
    split at h
    · exact ⟨fr, by simp, List.mem_of_getElem? h⟩
    · obtain ⟨g, hg, hx⟩ := lk_mem h; exact ⟨g, by simp [hg], hx⟩
theorem lk_of_mem {α : Type} : ∀ {l : List (List α)} {fr : List α} {x : α}, fr ∈ l → x ∈ fr → ∃ f n, lk l f n = some x
  | [], _, _, h, _ => by simp at h
  | g :: r, fr, x, h, hx => by
    rcases List.mem_cons.mp h with rfl | h
    · obtain ⟨n, hn, e⟩ := List.getElem_of_mem hx
      exact ⟨r.length, n, by unfold lk; rw [if_pos rfl, List.getElem?_eq_getElem hn, e]⟩
    · obtain ⟨f, n, e⟩ := lk_of_mem h hx
      refine ⟨f, n, ?_⟩
      unfold lk
      rw [if_neg (Nat.ne_of_lt (lk_lt e)), e]
theorem lk_other {α β : Type} : ∀ {l : List (List α)} {m : List (List β)}, l.map List.length = m.map List.length → ∀ {f n : Nat} {x : α}, lk l f n = some x → ∃ y, lk m f n = some y
  | [], m, _, f, n, x, h => by simp [lk] at h
  | fr :: r, [], e, _, _, _, _ => by simp at e
  | fr :: r, g :: q, e, f, n, x, h => by
    simp only [List.map_cons, List.cons.injEq] at e
    have el : r.length = q.length := by have := congrArg List.length e.2; simpa using this
    unfold lk at h ⊢
    split at h
    · rename_i ef
      rw [if_pos (by rw [ef, el])]
      obtain ⟨hn, _⟩ := List.getElem?_eq_some_iff.mp h
      exact ⟨g[n]'(by omega), List.getElem?_eq_getElem (by omega)⟩
    · rename_i ef
      rw [if_neg (by rw [← el]; exact ef)]
      exact lk_other e.2 h
theorem Mem.len (m : Mem K H μ s) : μ.fr.length = s.length := by have := congrArg List.length m.shp; simpa using this
/-- what is live is tracked, and a list -/
theorem Mem.live (m : Mem K H μ s) {f : List Addr} {a : Addr} (hf : f ∈ μ.fr) (ha : a ∈ f) : ∃ vs, H a = some (.lst vs) := by
  obtain ⟨k, n, e⟩ := lk_of_mem hf ha
  obtain ⟨c, ec⟩ := lk_other m.shp e
  have := m.cel k n a c e ec
  cases c with
  | lst xs => obtain ⟨vs, h, _⟩ := this; exact ⟨vs, h⟩
  | dct _ _ => exact this.elim
theorem off_ne {a b : Addr} (h : Off μ b) (h' : ¬ Off μ a) : b ≠ a := fun e => h' (by rw [← e]; exact h)
theorem not_off {a : Addr} (h : ¬ Off μ a) : (∃ f ∈ μ.fr, a ∈ f) ∨ μ.hid a := by
  refine Classical.byContradiction fun q => h ⟨fun f hf ha => q (.inl ⟨f, hf, ha⟩), fun ha => q (.inr ha)⟩
theorem Mem.on (m : Mem K H μ s) {a : Addr} (h : ¬ Off μ a) : ∃ vs, H a = some (.lst vs) := by
  rcases not_off h with ⟨f, hf, ha⟩ | ha
  · exact m.live hf ha
  · exact m.hd a ha
theorem Mem.off (m : Mem K H μ s) {a : Addr} (h : H a = none) : Off μ a := Classical.byContradiction fun q => by
  obtain ⟨vs, e⟩ := m.on q; rw [h] at e; cases e
theorem Mem.offT (m : Mem K H μ s) {a : Addr} {u : HO} (h : H a = some u) (hu : ∀ vs, u ≠ .lst vs) : Off μ a := Classical.byContradiction fun q => by
  obtain ⟨vs, e⟩ := m.on q; rw [h] at e; exact hu vs (Option.some.inj e)

theorem exts_nil {l : List (List Addr)} : exts [] l = l := by cases l <;> simp [exts]
theorem exts_exts {l : List (List Addr)} (b c : List Addr) : exts c (exts b l) = exts (b ++ c) l := by cases l <;> simp [exts]
theorem exts_mem {l : List (List Addr)} {b : List Addr} {a : Addr} : (∃ f ∈ exts b l, a ∈ f) → (∃ f ∈ l, a ∈ f) ∨ a ∈ b := by
  cases l with
  | nil => rintro ⟨f, hf, _⟩; simp [exts] at hf
  | cons fr r =>
    rintro ⟨f, hf, ha⟩
    simp only [exts, List.mem_cons] at hf
    rcases hf with rfl | hf
    · rcases List.mem_append.mp ha with h | h
      · exact .inl ⟨fr, by simp, h⟩
      · exact .inr h
    · exact .inl ⟨f, by simp [hf], ha⟩
theorem exts_sub {l : List (List Addr)} {b : List Addr} {a : Addr} : (∃ f ∈ l, a ∈ f) → ∃ f ∈ exts b l, a ∈ f := by
  cases l with
  | nil => rintro ⟨f, hf, _⟩; simp at hf
  | cons fr r =>
    rintro ⟨f, hf, ha⟩
    rcases List.mem_cons.mp hf with rfl | hf
    · exact ⟨f ++ b, by simp [exts], List.mem_append_left _ ha⟩
    · exact ⟨f, by simp [exts, hf], ha⟩
theorem lk_exts {l : List (List Addr)} {b : List Addr} {f n : Nat} {a : Addr} (h : lk l f n = some a) : lk (exts b l) f n = some a := by
  cases l with
  | nil => simp [lk] at h
  | cons fr r =>
    simp only [exts]
    unfold lk at h ⊢
    split at h
    · rename_i e
      rw [if_pos e]
      obtain ⟨hn, e2⟩ := List.getElem?_eq_some_iff.mp h
      rw [List.getElem?_append_left hn, h]
    · rename_i e
      rw [if_neg e, h]
theorem exts_length {l : List (List Addr)} {b : List Addr} : (exts b l).length = l.length := by cases l <;> simp [exts]
theorem Grow.refl (m : Mem K H μ s) : Grow μ H μ H := ⟨⟨[], exts_nil.symm, by simp⟩, fun _ h => .inr h, fun _ h => h, fun _ _ _ h _ => h, fun f hf a ha => let ⟨vs, e⟩ := m.live hf ha; ⟨_, e⟩, fun _ _ => rfl, fun _ ps h => ⟨ps, h⟩⟩
theorem Grow.len (g : Grow μ H μ' H') : μ'.fr.length = μ.fr.length := by obtain ⟨b, e, _⟩ := g.ext; rw [e, exts_length]
theorem Grow.none (g : Grow μ H μ' H') {a : Addr} (h : H' a = Option.none) : H a = Option.none := by
  cases e : H a with
  | none => rfl
  | some o =>
    by_cases ho : Off μ a
    · by_cases ht : ∃ ps, o = .tbl ps
      · obtain ⟨ps, rfl⟩ := ht
        obtain ⟨qs, e'⟩ := g.tk a ps e
        rw [h] at e'; cases e'
      · have := g.kp a o ho e fun ps z => ht ⟨ps, z⟩; rw [h] at this; cases this
    · rcases not_off ho with ⟨f, hf, ha⟩ | ha
      · obtain ⟨o', e'⟩ := g.lv f hf a ha
        rw [h] at e'; cases e'
      · have := g.hk a ha; rw [h, e] at this; cases this
theorem Grow.off (g : Grow μ H μ' H') {a : Addr} {o : HO} (ho : Off μ a) (e : H a = some o) : Off μ' a := by
  obtain ⟨b, e1, hb⟩ := g.ext
  refine ⟨fun f hf ha => ?_, fun ha => ?_⟩
  · rw [e1] at hf
    rcases exts_mem ⟨f, hf, ha⟩ with ⟨f', hf', ha'⟩ | h
    · exact ho.1 f' hf' ha'
    · have q := hb a h
      rw [e] at q; cases q
  · rcases g.hid a ha with q | q
    · rw [e] at q; cases q
    · exact ho.2 q
theorem Grow.trans (g : Grow μ H μ1 H1) (g' : Grow μ1 H1 μ2 H2) : Grow μ H μ2 H2 := by
  obtain ⟨b, e1, hb⟩ := id g.ext
  obtain ⟨c, e2, hc⟩ := id g'.ext
  refine ⟨⟨b ++ c, by rw [e2, e1, exts_exts], fun x hx => ?_⟩, fun x hx => ?_, fun x hx => g'.hs x (g.hs x hx), fun a o ho e n => g'.kp a o (g.off ho e) (g.kp a o ho e n) n, fun f hf a ha => ?_, fun a ha => (g'.hk a (g.hs a ha)).trans (g.hk a ha), fun a ps e => let ⟨qs, e'⟩ := g.tk a ps e; g'.tk a qs e'⟩
  · rcases List.mem_append.mp hx with h | h
    · exact hb x h
    · exact g.none (hc x h)
  · rcases g'.hid x hx with q | q
    · exact .inl (g.none q)
    · exact g.hid x q
  · obtain ⟨f', hf', ha'⟩ := exts_sub (b := b) ⟨f, hf, ha⟩
    exact g'.lv f' (by rw [e1]; exact hf') a ha'

mutual
theorem Rep.mono (g : Grow μ H μ' H') (m : Mem K H μ s) : ∀ (v : Val) (x : V), Rep K H μ v x → Rep K H' μ' v x
  | .non, _, h => h
  | .bl _, _, h => h
  | .int _, _, h => h
  | .str _, _, h => h
  | .tup xs, x, h => by
    unfold Rep at h ⊢
    obtain ⟨a, vs, e, hq, hl, hr⟩ := h
    refine ⟨a, vs, e, ?_, hl, RepAll.mono g m xs vs hr⟩
    rcases hq with ⟨u, hq, tu⟩ | hq
    · exact .inl ⟨u, g.kp a _ (m.offT hq fun _ => tu.ne) hq (by obtain ⟨o, eu, _⟩ := tu; rw [eu]; intro _ z; cases z), tu⟩
    · exact .inr hq
  | .lst xs, x, h => by
    unfold Rep at h ⊢
    obtain ⟨a, vs, e, hq, ho, hl, hr⟩ := h
    exact ⟨a, vs, e, g.kp a _ ho hq (fun _ z => by cases z), g.off ho hq, hl, RepAll.mono g m xs vs hr⟩
  | .scr xs, x, h => by
    unfold Rep at h ⊢
    obtain ⟨a, vs, e, hq, hl, hr⟩ := h
    refine ⟨a, vs, e, ?_, hl, RepAll.mono g m xs vs hr⟩
    rcases hq with ⟨hq | ⟨o, hq⟩, ho⟩ | hq
    · exact .inl ⟨.inl (g.kp a _ ho hq (fun _ z => by cases z)), g.off ho hq⟩
    · exact .inl ⟨.inr ⟨o, g.kp a _ ho hq (fun _ z => by cases z)⟩, g.off ho hq⟩
    · exact .inr hq
  | .dct _ _, _, h => by unfold Rep at h; exact h.elim
  | .ref f n, x, h => by
    unfold Rep at h ⊢
    obtain ⟨a, e, hq⟩ := h
    obtain ⟨b, e2, _⟩ := g.ext
    exact ⟨a, e, by rw [e2]; exact lk_exts hq⟩
theorem RepAll.mono (g : Grow μ H μ' H') (m : Mem K H μ s) : ∀ (v : List Val) (x : List V), RepAll K H μ v x → RepAll K H' μ' v x
  | [], _, h => by unfold RepAll at h ⊢; exact h
  | v :: vs, x, h => by
    unfold RepAll at h ⊢
    obtain ⟨w, ws, e, h1, h2⟩ := h
    exact ⟨w, ws, e, Rep.mono g m v w h1, RepAll.mono g m vs ws h2⟩
end
theorem RepAll.length : ∀ {vs : List Val} {xs : List V}, RepAll K H μ vs xs → xs.length = vs.length
  | [], _, h => by unfold RepAll at h; rw [h]; rfl
  | v :: vs, x, h => by
    unfold RepAll at h
    obtain ⟨w, ws, e, _, h2⟩ := h
    rw [e]; simp [RepAll.length h2]
theorem RepAll.get : ∀ {vs : List Val} {xs : List V} {i : Nat} {v : Val}, RepAll K H μ vs xs → vs[i]? = some v → ∃ x, xs[i]? = some x ∧ Rep K H μ v x
  | [], _, _, _, _, h2 => by simp at h2
  | v :: vs, x, 0, _, h, h2 => by
    unfold RepAll at h
    obtain ⟨w, ws, e, h1, _⟩ := h
    simp at h2; subst h2
    exact ⟨w, by rw [e]; rfl, h1⟩
  | v :: vs, x, i + 1, u, h, h2 => by
    unfold RepAll at h
    obtain ⟨w, ws, e, _, h3⟩ := h
    obtain ⟨y, hy, hr⟩ := RepAll.get (i := i) h3 (by simpa using h2)
    exact ⟨y, by rw [e]; simpa using hy, hr⟩
theorem RepAll.append : ∀ {vs ws : List Val} {xs ys : List V}, RepAll K H μ vs xs → RepAll K H μ ws ys → RepAll K H μ (vs ++ ws) (xs ++ ys)
  | [], ws, xs, ys, h, h2 => by unfold RepAll at h; rw [h]; exact h2
  | v :: vs, ws, xs, ys, h, h2 => by
    unfold RepAll at h
    obtain ⟨w, us, e, h1, h3⟩ := h
    rw [e]
    show RepAll K H μ (v :: (vs ++ ws)) (w :: (us ++ ys))
    unfold RepAll
    exact ⟨w, us ++ ys, rfl, h1, h3.append h2⟩
theorem RepAll.one {v : Val} {x : V} (h : Rep K H μ v x) : RepAll K H μ [v] [x] := by
  unfold RepAll RepAll
  exact ⟨x, [], rfl, h, rfl⟩
theorem RepAll.nil : RepAll K H μ [] [] := by unfold RepAll; rfl
theorem RepAll.cons {v : Val} {x : V} {vs : List Val} {xs : List V} (h : Rep K H μ v x) (h2 : RepAll K H μ vs xs) : RepAll K H μ (v :: vs) (x :: xs) := by
  unfold RepAll
  exact ⟨x, xs, rfl, h, h2⟩
theorem RepAll.take : ∀ {vs : List Val} {xs : List V} (n : Nat), RepAll K H μ vs xs → RepAll K H μ (vs.take n) (xs.take n)
  | _, _, 0, _ => by simp [RepAll]
  | [], xs, n + 1, h => by unfold RepAll at h; rw [h]; simp [RepAll]
  | v :: vs, xs, n + 1, h => by
    unfold RepAll at h
    obtain ⟨w, us, e, h1, h3⟩ := h
    rw [e]
    exact RepAll.cons h1 (h3.take n)
theorem RepAll.drop : ∀ {vs : List Val} {xs : List V} (n : Nat), RepAll K H μ vs xs → RepAll K H μ (vs.drop n) (xs.drop n)
  | _, _, 0, h => h
  | [], xs, n + 1, h => by unfold RepAll at h; rw [h]; simp [RepAll]
  | v :: vs, xs, n + 1, h => by
    unfold RepAll at h
    obtain ⟨w, us, e, h1, h3⟩ := h
    rw [e]
    exact h3.drop n
theorem RepAll.set : ∀ {vs : List Val} {xs : List V} (n : Nat) {v : Val} {x : V}, RepAll K H μ vs xs → Rep K H μ v x → RepAll K H μ (vs.set n v) (xs.set n x)
  | [], xs, n, v, x, h, _ => by unfold RepAll at h; rw [h]; simp [RepAll]
  | u :: vs, xs, 0, v, x, h, hv => by
    unfold RepAll at h
    obtain ⟨w, us, e, h1, h3⟩ := h
    rw [e]
    exact RepAll.cons hv h3
  | u :: vs, xs, n + 1, v, x, h, hv => by
    unfold RepAll at h
    obtain ⟨w, us, e, h1, h3⟩ := h
    rw [e]
    exact RepAll.cons h1 (h3.set n hv)

/-- a new object that nobody changes -/
theorem Mem.new (m : Mem K H μ s) {p : Addr} {o : HO} (hp : H p = none) : Grow μ H μ (upd H p o) := by
  have ne : ∀ a, ¬ Off μ a → a ≠ p := fun a h => by
    obtain ⟨vs, e⟩ := m.on h
    exact ne_of_none e hp
  refine ⟨⟨[], exts_nil.symm, by simp⟩, fun _ h => .inr h, fun _ h => h, fun a u _ e _ => ?_, fun f hf a ha => ?_, fun a ha => ?_, fun a ps e => ⟨ps, by rw [upd_ne (ne_of_none e hp)]; exact e⟩⟩
  · rw [upd_ne (ne_of_none e hp)]; exact e
  · obtain ⟨vs, e⟩ := m.live hf ha
    exact ⟨.lst vs, by rw [upd_ne (ne_of_none e hp)]; exact e⟩
  · exact upd_ne (ne a fun h => h.2 ha)
/-- .. that is hidden -/
theorem Mem.newHid (m : Mem K H μ s) {p : Addr} {o : HO} (hp : H p = none) : Grow μ H (μ.hide p) (upd H p o) := by
  obtain ⟨h1, h2, h0, h3, h4, h5, h6⟩ := m.new (o := o) hp
  exact ⟨h1, fun x hx => hx.elim (fun e => .inl (by rw [e]; exact hp)) .inr, fun x hx => .inr hx, h3, h4, h5, h6⟩
/-- the memory over a heap that has grown, where the live cells stand as they were -/
theorem Mem.grow (m : Mem K H μ s) (g : Grow μ H μ H') (h : ∀ f ∈ μ.fr, ∀ a ∈ f, H' a = H a) (ht : LamX.Tabs Tbl.T H') : Mem K H' μ s := by
  refine ⟨m.shp, m.nd, m.sep, fun f n a c e1 e2 => ?_, m.bel, fun a ha => ?_, ht⟩
  · have q := m.cel f n a c e1 e2
    obtain ⟨fr, hfr, ha⟩ := lk_mem e1
    cases c with
    | lst xs =>
      obtain ⟨vs, e, hl, hr⟩ := q
      exact ⟨vs, by rw [h fr hfr a ha]; exact e, hl, RepAll.mono g m _ _ hr⟩
    | dct _ _ => exact q
  · rw [g.hk a ha]; exact m.hd a ha
theorem Mem.upd_new (m : Mem K H μ s) {p : Addr} {o : HO} (hp : H p = none) : Mem K (upd H p o) μ s :=
  m.grow (m.new hp) (fun f hf a ha => by
    obtain ⟨vs, e⟩ := m.live hf ha
    rw [upd_ne (ne_of_none e hp)]) (tabs_new m.tb hp)

/-! ### what stands where a live or hidden list is changed -/
mutual
theorem Rep.upd {a : Addr} {ws : List V} (ha : ¬ Off μ a) (m : ∃ vs, H a = some (.lst vs)) : ∀ (v : Val) (x : V), Rep K H μ v x → Rep K (upd H a (.lst ws)) μ v x
  | .non, _, h => h
  | .bl _, _, h => h
  | .int _, _, h => h
  | .str _, _, h => h
  | .tup xs, x, h => by
    unfold Rep at h ⊢
    obtain ⟨b, vs, e, hq, hl, hr⟩ := h
    refine ⟨b, vs, e, ?_, hl, RepAll.upd ha m xs vs hr⟩
    obtain ⟨us, eu⟩ := m
    rcases hq with ⟨u, hq, tu⟩ | hq
    · exact .inl ⟨u, by rw [upd_ne (ne_of hq eu tu.ne)]; exact hq, tu⟩
    · exact .inr hq
  | .lst xs, x, h => by
    unfold Rep at h ⊢
    obtain ⟨b, vs, e, hq, ho, hl, hr⟩ := h
    exact ⟨b, vs, e, by rw [upd_ne (off_ne ho ha)]; exact hq, ho, hl, RepAll.upd ha m xs vs hr⟩
  | .scr xs, x, h => by
    unfold Rep at h ⊢
    obtain ⟨b, vs, e, hq, hl, hr⟩ := h
    refine ⟨b, vs, e, ?_, hl, RepAll.upd ha m xs vs hr⟩
    rcases hq with ⟨hq | ⟨o, hq⟩, ho⟩ | hq
    · exact .inl ⟨.inl (by rw [upd_ne (off_ne ho ha)]; exact hq), ho⟩
    · exact .inl ⟨.inr ⟨o, by rw [upd_ne (off_ne ho ha)]; exact hq⟩, ho⟩
    · exact .inr hq
  | .dct _ _, _, h => by unfold Rep at h; exact h.elim
  | .ref f n, x, h => by
    unfold Rep at h ⊢
    exact h
theorem RepAll.upd {a : Addr} {ws : List V} (ha : ¬ Off μ a) (m : ∃ vs, H a = some (.lst vs)) : ∀ (v : List Val) (x : List V), RepAll K H μ v x → RepAll K (upd H a (.lst ws)) μ v x
  | [], _, h => by unfold RepAll at h ⊢; exact h
  | v :: vs, x, h => by
    unfold RepAll at h ⊢
    obtain ⟨w, us, e, h1, h2⟩ := h
    exact ⟨w, us, e, Rep.upd ha m v w h1, RepAll.upd ha m vs us h2⟩
end
mutual
theorem Rep.sub (fr : ∀ f n b, lk μ.fr f n = some b → lk μ'.fr f n = some b) (off : ∀ b, Off μ b → Off μ' b) : ∀ (v : Val) (x : V), Rep K H μ v x → Rep K H μ' v x
  | .non, _, h => h
  | .bl _, _, h => h
  | .int _, _, h => h
  | .str _, _, h => h
  | .tup xs, x, h => by
    unfold Rep at h ⊢
    obtain ⟨b, vs, e, hq, hl, hr⟩ := h
    exact ⟨b, vs, e, hq, hl, RepAll.sub fr off xs vs hr⟩
  | .lst xs, x, h => by
    unfold Rep at h ⊢
    obtain ⟨b, vs, e, hq, ho, hl, hr⟩ := h
    exact ⟨b, vs, e, hq, off b ho, hl, RepAll.sub fr off xs vs hr⟩
  | .scr xs, x, h => by
    unfold Rep at h ⊢
    obtain ⟨b, vs, e, hq, hl, hr⟩ := h
    exact ⟨b, vs, e, hq.imp (fun q => ⟨q.1, off b q.2⟩) id, hl, RepAll.sub fr off xs vs hr⟩
  | .dct _ _, _, h => by unfold Rep at h; exact h.elim
  | .ref f n, x, h => by
    unfold Rep at h ⊢
    obtain ⟨a, e, q⟩ := h
    exact ⟨a, e, fr f n a q⟩
theorem RepAll.sub (fr : ∀ f n b, lk μ.fr f n = some b → lk μ'.fr f n = some b) (off : ∀ b, Off μ b → Off μ' b) : ∀ (v : List Val) (x : List V), RepAll K H μ v x → RepAll K H μ' v x
  | [], _, h => by unfold RepAll at h ⊢; exact h
  | v :: vs, x, h => by
    unfold RepAll at h ⊢
    obtain ⟨w, us, e, h1, h2⟩ := h
    exact ⟨w, us, e, Rep.sub fr off v w h1, RepAll.sub fr off vs us h2⟩
end
theorem off_unhide {a b : Addr} (h : Off (μ.hide a) b) : Off μ b := ⟨h.1, fun q => h.2 (.inr q)⟩
theorem Rep.unhide {a : Addr} {v : Val} {x : V} (h : Rep K H (μ.hide a) v x) : Rep K H μ v x := Rep.sub (μ := μ.hide a) (μ' := μ) (fun _ _ _ h => h) (fun _ h => off_unhide h) v x h
theorem RepAll.unhide {a : Addr} {v : List Val} {x : List V} (h : RepAll K H (μ.hide a) v x) : RepAll K H μ v x := RepAll.sub (μ := μ.hide a) (μ' := μ) (fun _ _ _ h => h) (fun _ h => off_unhide h) v x h
theorem off_live {a b : Addr} (h : Off (μ.hide a) b) : Off (μ.ext a) b := by
  refine ⟨fun f hf hm => ?_, fun q => h.2 (.inr q)⟩
  rcases exts_mem ⟨f, hf, hm⟩ with ⟨g, hg, hm⟩ | hm
  · exact h.1 g hg hm
  · exact h.2 (.inl (by simpa using hm))
theorem show_hide {a : Addr} (h : μ.hid a) : (μ.show a).hide a = μ := by
  unfold Mu.show Mu.hide
  cases μ with
  | mk fr hid =>
    congr
    funext x
    simp only [eq_iff_iff]
    refine ⟨fun q => q.elim (fun e => e ▸ h) fun q => q.2, fun q => ?_⟩
    by_cases e : x = a
    · exact .inl e
    · exact .inr ⟨e, q⟩
theorem CellRep.sub {a : Addr} {c : Cell} (fr : ∀ f n b, lk μ.fr f n = some b → lk μ'.fr f n = some b) (off : ∀ b, Off μ b → Off μ' b) (h : CellRep K H μ a c) : CellRep K H μ' a c := by
  cases c with
  | lst xs => obtain ⟨vs, e, hl, hr⟩ := h; exact ⟨vs, e, hl, RepAll.sub fr off _ _ hr⟩
  | dct _ _ => exact h.elim
theorem Mem.unhide {a : Addr} (m : Mem K H (μ.hide a) s) : Mem K H μ s :=
  ⟨m.shp, m.nd, fun f hf b hb q => m.sep f hf b hb (.inr q), fun f n b c e1 e2 => CellRep.sub (μ := μ.hide a) (μ' := μ) (fun _ _ _ h => h) (fun _ h => off_unhide h) (m.cel f n b c e1 e2), m.bel, fun b hb => m.hd b (.inr hb), m.tb⟩
/-- a hidden list is changed by whoever makes it -/
theorem Mem.updHid {a : Addr} {ws : List V} (m : Mem K H μ s) (ha : μ.hid a) : Mem K (upd H a (.lst ws)) μ s := by
  have no : ¬ Off μ a := fun h => h.2 ha
  have hv := m.hd a ha
  have ne : ∀ f ∈ μ.fr, ∀ b ∈ f, b ≠ a := fun f hf b hb e => m.sep f hf b hb (by rw [e]; exact ha)
  refine ⟨m.shp, m.nd, m.sep, fun f n b c e1 e2 => ?_, m.bel, fun b hb => ?_, let ⟨vs, e⟩ := hv; tabs_lst m.tb e⟩
  · obtain ⟨fr, hfr, hb⟩ := lk_mem e1
    have q := m.cel f n b c e1 e2
    cases c with
    | lst xs =>
      obtain ⟨vs, e, hl, hr⟩ := q
      exact ⟨vs, by rw [upd_ne (ne fr hfr b hb)]; exact e, hl, RepAll.upd no hv _ _ hr⟩
    | dct _ _ => exact q.elim
  · by_cases e : b = a
    · subst e; exact ⟨ws, upd_same⟩
    · rw [upd_ne e]; exact m.hd b hb
/-- a hidden list comes to live -/
theorem Mem.comes {a : Addr} {xs : List Val} {vs : List V} {fr : List Cell} {r : S} (m : Mem K H (μ.hide a) (fr :: r)) (h : H a = some (.lst vs)) (hl : vs.length ≤ sizeLine) (hr : RepAll K H (μ.hide a) xs vs) (hb : belowAll (r.length + 1) xs = true) (hh : ¬ μ.hid a) :
    Mem K H (μ.ext a) ((fr ++ [.lst xs]) :: r) ∧ Rep K H (μ.ext a) (.ref r.length fr.length) (.ref a) := by
  obtain ⟨sh, nd, se, ce, be, hd, tb⟩ := m
  have sub1 : ∀ f n b, lk (μ.hide a).fr f n = some b → lk (μ.ext a).fr f n = some b := fun f n b e => lk_exts e
  have sub2 : ∀ b, Off (μ.hide a) b → Off (μ.ext a) b := fun _ => off_live
  obtain ⟨mf, mh⟩ := μ
  cases mf with
  | nil => simp [Mu.hide] at sh
  | cons g q =>
    simp only [Mu.hide, List.map_cons, List.cons.injEq] at sh
    have el : q.length = r.length := by have := congrArg List.length sh.2; simpa using this
    refine ⟨⟨?_, ?_, ?_, ?_, ?_, ?_, tb⟩, ?_⟩
    · simp only [Mu.ext, exts, List.map_cons, List.length_append, List.length_cons, List.length_nil, sh.1, sh.2]
    · have na : a ∉ (g :: q).flatten := fun hm => by
        obtain ⟨f, hf, ha⟩ := List.mem_flatten.mp hm
        exact se f hf a ha (.inl rfl)
      simp only [Mu.hide, List.flatten_cons] at nd na
      simp only [Mu.ext, exts, List.flatten_cons]
      have e2 : (g ++ [a] ++ q.flatten) = g ++ (a :: q.flatten) := by simp
      rw [e2]
      exact List.perm_middle.nodup_iff.mpr (List.nodup_cons.mpr ⟨na, nd⟩)
    · intro f hf b hb hq
      simp only [Mu.ext] at hf
      rcases exts_mem ⟨f, hf, hb⟩ with ⟨f', hf', hb'⟩ | hb'
      · exact se f' hf' b hb' (.inr hq)
      · have eb : b = a := by simpa using hb'
        rw [eb] at hq
        exact hh hq
    · intro f n b c e1 e2
      simp only [Mu.ext, exts] at e1
      unfold lk at e1 e2
      by_cases ef : f = q.length
      · rw [if_pos ef] at e1
        rw [if_pos (ef.trans el)] at e2
        by_cases hn : n < fr.length
        · rw [List.getElem?_append_left hn] at e2
          rw [List.getElem?_append_left (by omega)] at e1
          refine (ce f n b c ?_ ?_).sub sub1 sub2
          · show lk (g :: q) f n = some b
            unfold lk; rw [if_pos ef, e1]
          · unfold lk; rw [if_pos (ef.trans el), e2]
        · rw [List.getElem?_append_right (by omega)] at e2
          have hn0 : n - fr.length = 0 := by
            have := (List.getElem?_eq_some_iff.mp e2).1
            simp at this; omega
          have hnn : n = fr.length := by omega
          rw [hn0] at e2
          simp at e2
          subst e2
          rw [List.getElem?_append_right (by omega), show n - g.length = 0 by omega] at e1
          simp at e1
          subst e1
          exact ⟨vs, h, hl, RepAll.sub sub1 sub2 _ _ hr⟩
      · rw [if_neg ef] at e1
        rw [if_neg (by rw [← el]; exact ef)] at e2
        refine (ce f n b c ?_ ?_).sub sub1 sub2
        · show lk (g :: q) f n = some b
          unfold lk; rw [if_neg ef, e1]
        · unfold lk; rw [if_neg (by rw [← el]; exact ef), e2]
    · intro f n c e2
      unfold lk at e2
      by_cases ef : f = r.length
      · rw [if_pos ef] at e2
        by_cases hn : n < fr.length
        · rw [List.getElem?_append_left hn] at e2
          exact be f n c (by unfold lk; rw [if_pos ef, e2])
        · rw [List.getElem?_append_right (by omega)] at e2
          have hn0 : n - fr.length = 0 := by
            have := (List.getElem?_eq_some_iff.mp e2).1
            simp at this; omega
          rw [hn0] at e2
          simp at e2
          subst e2
          rw [ef]; exact hb
      · rw [if_neg ef] at e2
        exact be f n c (by unfold lk; rw [if_neg ef, e2])
    · exact fun b hb => hd b (.inr hb)
    · unfold Rep
      refine ⟨a, rfl, ?_⟩
      simp only [Mu.ext, exts]
      unfold lk
      rw [if_pos el.symm, List.getElem?_append_right (by omega), show fr.length - g.length = 0 by omega]
      rfl
theorem Mem.offHid {a : Addr} (m : Mem K H (μ.hide a) s) (hh : ¬ μ.hid a) : Off μ a := ⟨fun f hf ha => m.sep f hf a ha (.inl rfl), hh⟩
theorem Grow.comes {a : Addr} (g : Grow μ H (μ'.hide a) H') (h : H a = Option.none) (ho : Off μ a) : Grow μ H (μ'.ext a) H' := by
  obtain ⟨⟨b, e, hb⟩, hh, h0, h3, h4, h5, h6⟩ := g
  refine ⟨⟨b ++ [a], ?_, fun x hx => ?_⟩, fun x hx => hh x (.inr hx), fun x hx => ?_, h3, h4, h5, h6⟩
  · have e : μ'.fr = exts b μ.fr := e
    show exts [a] μ'.fr = _
    rw [e, exts_exts]
  · rcases List.mem_append.mp hx with q | q
    · exact hb x q
    · simp at q; rw [q]; exact h
  · rcases h0 x hx with q | q
    · exact (ho.2 (q ▸ hx)).elim
    · exact q
theorem Grow.unhide {a : Addr} (g : Grow μ H (μ'.hide a) H') (ho : Off μ a) : Grow μ H μ' H' := by
  obtain ⟨h1, hh, h0, h3, h4, h5, h6⟩ := g
  refine ⟨h1, fun x hx => hh x (.inr hx), fun x hx => ?_, h3, h4, h5, h6⟩
  rcases h0 x hx with q | q
  · exact (ho.2 (q ▸ hx)).elim
  · exact q
/-- behind a growth a hidden list is changed by whoever makes it -/
theorem Grow.updHid {a : Addr} {o : HO} (g : Grow μ H μ' H') (ha : H a = Option.none) (hm : Off μ a) : Grow μ H μ' (upd H' a o) := by
  obtain ⟨h1, hh, h0, h3, h4, h5, h6⟩ := g
  refine ⟨h1, hh, h0, fun b u ho e n => ?_, fun f hf b hb => ?_, fun b hb => ?_, fun b ps e => let ⟨qs, q⟩ := h6 b ps e; ⟨qs, by rw [upd_ne (ne_of_none e ha)]; exact q⟩⟩
  · rw [upd_ne (ne_of_none e ha)]; exact h3 b u ho e n
  · rw [upd_ne (fun z => hm.1 f hf (by rw [← z]; exact hb))]; exact h4 f hf b hb
  · rw [upd_ne (fun z => hm.2 (by rw [← z]; exact hb))]; exact h5 b hb
end
end FM

set_option autoImplicit false
/-! the judgements: a piece of syntax and the combinator that is sound for it -/
namespace FM
open PySem PySem.Spec PyProof.Rows L2
variable [Tbl]

def R.wp {α : Type} (r : R α) (Q : α → S → Prop) (E : Exn → S → Prop) : Prop := match r with
  | .ok a s => Q a s
  | .ex e s => E e s
  | .no => False
theorem wp_bind {α β : Type} {r : R α} {f : α → S → R β} {Q : β → S → Prop} {E : Exn → S → Prop} (h : (r.bind f).wp Q E) : r.wp (fun a s => (f a s).wp Q E) E := by
  cases r <;> exact h
theorem wp_mono {α : Type} {r : R α} {Q Q' : α → S → Prop} {E E' : Exn → S → Prop} (h : r.wp Q E) (hq : ∀ a s, Q a s → Q' a s) (he : ∀ e s, E e s → E' e s) : r.wp Q' E' := by
  cases r with
  | ok a s => exact hq a s h
  | ex e s => exact he e s h
  | no => exact h
theorem wp_ofO {α : Type} {o : Option α} {s : S} {Q : α → S → Prop} {E : Exn → S → Prop} (h : (ofO o s).wp Q E) : ∃ a, o = some a ∧ Q a s := by
  cases o with
  | none => exact False.elim h
  | some a => exact ⟨a, rfl, h⟩
theorem wp_nox {α : Type} {r : R α} {Q : α → S → Prop} {E E' : Exn → S → Prop} (h : r.nox.wp Q E) : r.wp Q E' := by
  cases r with
  | ok a s => exact h
  | ex e s => exact False.elim h
  | no => exact h

/-- how an exception lies (none of them yet) -/
def XRep (K : PySem.W.Frag) (H : Hp) (μ : Mu) (e : Exn) (c : Value) (d : Option Addr) : Prop := True
def XP (K : PySem.W.Frag) (μ : Mu) (H : Hp) (EW : XK) (e : Exn) (s' : S) : Prop :=
  ∀ c d H' μ', Grow μ H μ' H' → Mem K H' μ' s' → XRep K H' μ' e c d → EW c d H'
def VP (K : PySem.W.Frag) (μ : Mu) (H : Hp) (Q : VK) (v : Val) (s' : S) : Prop :=
  ∀ x H' μ', Grow μ H μ' H' → Mem K H' μ' s' → Rep K H' μ' v x → Q x H'
def AsP (K : PySem.W.Frag) (μ : Mu) (H : Hp) (Q : List V → Hp → Prop) (v : List Val) (s' : S) : Prop :=
  ∀ x H' μ', Grow μ H μ' H' → Mem K H' μ' s' → RepAll K H' μ' v x → Q x H'
def TsP (K : PySem.W.Frag) (μ : Mu) (H : Hp) (Q : Bool → Hp → Prop) (b : Bool) (s' : S) : Prop :=
  ∀ H' μ', Grow μ H μ' H' → Mem K H' μ' s' → Q b H'
/-- a new list: off the old memory, and its items stand when it has come to live -/
def FsP (K : PySem.W.Frag) (μ : Mu) (H : Hp) (Q : VK) (xs : List Val) (s' : S) : Prop :=
  ∀ (a : Addr) (vs : List V) (H' : Hp) (μ' : Mu), Grow μ H (μ'.hide a) H' → Mem K H' (μ'.hide a) s' → H a = none → ¬ μ'.hid a → H' a = some (.lst vs) → vs.length ≤ sizeLine → RepAll K H' (μ'.hide a) xs vs → Q (.ref a) H'
structure SR (K : PySem.W.Frag) (H : Hp) (μ : Mu) (ρ : FM.Env) (σ : L2.St) : Prop where
  len : ρ.length = σ.length
  get : ∀ (i : Nat) (v : Val), ρ[i]? = some (some v) → ∃ x, σ[i]? = some (some x) ∧ Rep K H μ v x

section
variable {K : PySem.W.Frag} {H H1 H' : Hp} {μ μ1 μ' : Mu} {s s' : S} {ρ : FM.Env} {σ : L2.St} {EW : XK} {Q : VK}
theorem SR.mono (r : SR K H μ ρ σ) (g : Grow μ H μ' H') (m : Mem K H μ s) : SR K H' μ' ρ σ :=
  ⟨r.len, fun i v e => let ⟨x, h1, h2⟩ := r.get i v e; ⟨x, h1, Rep.mono g m v x h2⟩⟩
theorem SR.set (r : SR K H μ ρ σ) {v : Val} {x : V} (i : Nat) (h : Rep K H μ v x) : SR K H μ (ρ.set i (some v)) (σ.set i (some x)) := by
  refine ⟨by simp [r.len], fun j u e => ?_⟩
  by_cases hj : i = j
  · subst hj
    by_cases hi : i < ρ.length
    · rw [List.getElem?_set_self hi] at e
      cases e
      exact ⟨x, List.getElem?_set_self (by rw [← r.len]; exact hi), h⟩
    · rw [List.getElem?_eq_none (by simpa using hi)] at e; cases e
  · rw [List.getElem?_set_ne hj] at e
    obtain ⟨y, h1, h2⟩ := r.get j u e
    exact ⟨y, by rw [List.getElem?_set_ne hj]; exact h1, h2⟩
theorem SR.wipe (r : SR K H μ ρ σ) : ∀ vs : List Nat, SR K H μ (FM.wipe ρ vs) (L2.wipe σ vs)
  | [] => r
  | v :: vs => by
    have q := r.wipe vs
    refine ⟨by simp [FM.wipe, L2.wipe, q.len], fun j u e => ?_⟩
    unfold FM.wipe at e
    unfold L2.wipe
    by_cases hj : v = j
    · subst hj
      by_cases hi : v < (FM.wipe ρ vs).length
      · rw [List.getElem?_set_self hi] at e; cases e
      · rw [List.getElem?_eq_none (by simpa using hi)] at e; cases e
    · rw [List.getElem?_set_ne hj] at e ⊢
      exact q.get j u e
theorem XP.mono (g : Grow μ H μ1 H1) {e : Exn} (h : XP K μ H EW e s') : XP K μ1 H1 EW e s' := fun c d H' μ' g' m x => h c d H' μ' (g.trans g') m x
theorem VP.mono (g : Grow μ H μ1 H1) {v : Val} (h : VP K μ H Q v s') : VP K μ1 H1 Q v s' := fun x H' μ' g' m r => h x H' μ' (g.trans g') m r
theorem AsP.mono (g : Grow μ H μ1 H1) {v : List Val} {Q : List V → Hp → Prop} (h : AsP K μ H Q v s') : AsP K μ1 H1 Q v s' := fun x H' μ' g' m r => h x H' μ' (g.trans g') m r
theorem TsP.mono (g : Grow μ H μ1 H1) {v : Bool} {Q : Bool → Hp → Prop} (h : TsP K μ H Q v s') : TsP K μ1 H1 Q v s' := fun H' μ' g' m => h H' μ' (g.trans g') m
theorem FsP.mono (g : Grow μ H μ1 H1) {v : List Val} (h : FsP K μ H Q v s') : FsP K μ1 H1 Q v s' := fun a vs H' μ' g' m h1 hh h2 h3 h4 => h a vs H' μ' (g.trans g') m (g.none h1) hh h2 h3 h4
end

structure ME {ι : Type} (X : ι → Cx) (K : PySem.W.Frag) (EW : XK) (e : Expr) (m : Ex) : Prop where
  ex : ∃ t, (∀ i, PE (X i) e t) ∧ ∀ σ H ρ μ s Q, SR K H μ ρ σ → Mem K H μ s → (m ρ s).wp (VP K μ H Q) (XP K μ H EW) → t σ H Q
structure MA {ι : Type} (X : ι → Cx) (K : PySem.W.Frag) (EW : XK) (es : List Expr) (m : Ax) : Prop where
  len : ∀ ρ s xs s', m ρ s = .ok xs s' → xs.length = es.length
  ex : ∃ t, (∀ i, PA (X i) es t) ∧ ∀ σ H ρ μ s Q, SR K H μ ρ σ → Mem K H μ s → (m ρ s).wp (AsP K μ H Q) (XP K μ H EW) → t σ H Q
structure MT {ι : Type} (X : ι → Cx) (K : PySem.W.Frag) (EW : XK) (e : Expr) (m : Tx) : Prop where
  ex : ∃ t, (∀ i, PT (X i) e t) ∧ ∀ σ H ρ μ s Q, SR K H μ ρ σ → Mem K H μ s → (m ρ s).wp (TsP K μ H Q) (XP K μ H EW) → t σ H Q
structure MW {ι : Type} (X : ι → Cx) (K : PySem.W.Frag) (EW : XK) (e : Expr) (m : Tx) : Prop where
  ex : ∃ t, (∀ i, PW (X i) e t) ∧ ∀ σ H ρ μ s Q, SR K H μ ρ σ → Mem K H μ s → (m ρ s).wp (TsP K μ H Q) (XP K μ H EW) → t σ H Q
structure MF {ι : Type} (X : ι → Cx) (K : PySem.W.Frag) (EW : XK) (e : Expr) (m : Fx) : Prop where
  ex : ∃ t, (∀ i, PE (X i) e t) ∧ ∀ σ H ρ μ s Q, SR K H μ ρ σ → Mem K H μ s → (m ρ s).wp (FsP K μ H Q) (XP K μ H EW) → t σ H Q
structure MO {ι : Type} (X : ι → Cx) (K : PySem.W.Frag) (EW : XK) (e : Option Expr) (m : Ox) : Prop where
  ex : ∃ t, (∀ i, PO (X i) e t) ∧ ∀ σ H ρ μ s (Q : Option Int → Hp → Prop), SR K H μ ρ σ → Mem K H μ s → (m ρ s).wp (fun o s' => ∀ H' μ', Grow μ H μ' H' → Mem K H' μ' s' → Q o H') (XP K μ H EW) → t σ H Q

section
variable {ι : Type} {X : ι → Cx} {K : PySem.W.Frag} {EW : XK} {e a b c : Expr} {es : List Expr} {ma mb mc : Ex} {mt mu : Tx} {mas : Ax} {pos : Pos}

theorem me_var {j : Nat} {x : Str} (hN : ∀ i, (X i).N[j]? = some x) (hv : ∀ i, Vis (X i).env.scope x) (hd : (x == ("__debug__" : Str)) = false := by decide) (hcd : (x == ("__classdict__" : Str)) = false := by decide) : ME X K EW (.Name x pos) (eVar j) := by
  refine ⟨⟨_, fun i => pe_var (hN i) (hv i) hd hcd, fun σ H ρ μ s Q r m h => ?_⟩⟩
  unfold eVar at h
  split at h
  · rename_i v e
    obtain ⟨y, h1, h2⟩ := r.get j v e
    exact ⟨y, h1, h y H μ (.refl m) m h2⟩
  · exact h.elim
theorem me_int {i j} : ME X K EW (.Constant (.int i) j pos) (eC (.int i)) := ⟨⟨_, fun _ => pe_int, fun σ H ρ μ s Q r m h => h _ H μ (.refl m) m (by unfold Rep; rfl)⟩⟩
theorem me_bl {i j} : ME X K EW (.Constant (.bool i) j pos) (eC (.bl i)) := ⟨⟨_, fun _ => pe_bl, fun σ H ρ μ s Q r m h => h _ H μ (.refl m) m (by unfold Rep; rfl)⟩⟩
theorem me_non {j} : ME X K EW (.Constant .none j pos) (eC .non) := ⟨⟨_, fun _ => pe_non, fun σ H ρ μ s Q r m h => h _ H μ (.refl m) m (by unfold Rep; rfl)⟩⟩
theorem me_str {x j} : ME X K EW (.Constant (.str x) j pos) (eC (.str x)) := ⟨⟨_, fun _ => pe_str, fun σ H ρ μ s Q r m h => h _ H μ (.refl m) m (by unfold Rep; rfl)⟩⟩

/-- an operation by values -/
def OpS {ι : Type} (X : ι → Cx) (K : PySem.W.Frag) (f : Value → Value → Sem Value) (g : S → Val → Val → Option Val) : Prop :=
  ∃ r, (∀ i, OpR (X i) f r) ∧ ∀ x y H μ s a b v, Mem K H μ s → Rep K H μ a x → Rep K H μ b y → g s a b = some v → ∀ Q : VK, VP K μ H Q v s → r x y H Q
theorem me_op {op : Operator} {g : S → Val → Val → Option Val} (o : OpS X K (binaryOp op) g) (ha : ME X K EW a ma) (hb : ME X K EW b mb) : ME X K EW (.BinOp a op b pos) (eOp g ma mb) := by
  obtain ⟨ta, pa, sa⟩ := ha.ex
  obtain ⟨tb, pb, sb⟩ := hb.ex
  obtain ⟨r, pr, sr⟩ := o
  refine ⟨⟨_, fun i => pe_op (pr i) (pa i) (pb i), fun σ H ρ μ s Q hr m h => ?_⟩⟩
  refine sa σ H ρ μ s _ hr m (wp_mono (wp_bind h) (fun v s1 h1 => ?_) fun _ _ q => q)
  intro x H1 μ1 g1 m1 r1
  refine sb σ H1 ρ μ1 s1 _ (hr.mono g1 m) m1 (wp_mono (wp_bind h1) (fun u s2 h2 => ?_) fun _ _ q => q.mono g1)
  intro y H2 μ2 g2 m2 r2
  obtain ⟨w, e, q⟩ := wp_ofO h2
  exact sr x y H2 μ2 s2 v u w m2 (Rep.mono g2 m1 v x r1) r2 e Q (q.mono (g1.trans g2))
theorem me_cmp {op : CmpOp} {g : S → Val → Val → Option Val} (o : OpS X K (compareOp op) g) (ha : ME X K EW a ma) (hb : ME X K EW b mb) (hm : behindInMarks op b = false := by first | exact nomark _ | rfl) : ME X K EW (.Compare a [op] [b] pos) (eOp g ma mb) := by
  obtain ⟨ta, pa, sa⟩ := ha.ex
  obtain ⟨tb, pb, sb⟩ := hb.ex
  obtain ⟨r, pr, sr⟩ := o
  refine ⟨⟨_, fun i => pe_cmpR (pr i) (pa i) (pb i) hm, fun σ H ρ μ s Q hr m h => ?_⟩⟩
  refine sa σ H ρ μ s _ hr m (wp_mono (wp_bind h) (fun v s1 h1 => ?_) fun _ _ q => q)
  intro x H1 μ1 g1 m1 r1
  refine sb σ H1 ρ μ1 s1 _ (hr.mono g1 m) m1 (wp_mono (wp_bind h1) (fun u s2 h2 => ?_) fun _ _ q => q.mono g1)
  intro y H2 μ2 g2 m2 r2
  obtain ⟨w, e, q⟩ := wp_ofO h2
  exact sr x y H2 μ2 s2 v u w m2 (Rep.mono g2 m1 v x r1) r2 e Q (q.mono (g1.trans g2))
/-- behind a known value -/
theorem rep_isN {K : PySem.W.Frag} {H : Hp} {μ : Mu} {v : Val} {x : V} (r1 : Rep K H μ v x) : decide (x = .non) = isN v := by
  cases v <;> unfold Rep at r1
  case non => rw [r1]; rfl
  case bl => rw [r1]; rfl
  case int => rw [r1]; rfl
  case str => rw [r1]; rfl
  case tup => obtain ⟨a, _, e, _⟩ := r1; rw [e]; rfl
  case lst => obtain ⟨a, _, e, _⟩ := r1; rw [e]; rfl
  case scr => obtain ⟨a, _, e, _⟩ := r1; rw [e]; rfl
  case dct => exact r1.elim
  case ref => obtain ⟨a, e, _⟩ := r1; rw [e]; rfl
theorem me_isN {j pos'} (ha : ME X K EW a ma) : ME X K EW (.Compare a [.Is] [.Constant .none j pos'] pos) (eIsN ma) := by
  obtain ⟨ta, pa, sa⟩ := ha.ex
  refine ⟨⟨_, fun i => pe_cmp (pc_isN (pa i)), fun σ H ρ μ s Q hr m h => ?_⟩⟩
  refine sa σ H ρ μ s _ hr m (wp_mono (wp_bind h) (fun v s1 h1 => ?_) fun _ _ q => q)
  intro x H1 μ1 g1 m1 r1
  show Q (.bl (decide (x = .non))) H1
  rw [rep_isN r1]
  exact h1 _ H1 μ1 g1 m1 (by unfold Rep; rfl)
theorem me_notN {j pos'} (ha : ME X K EW a ma) : ME X K EW (.Compare a [.IsNot] [.Constant .none j pos'] pos) (eNotN ma) := by
  obtain ⟨ta, pa, sa⟩ := ha.ex
  refine ⟨⟨_, fun i => pe_cmp (pc_notN (pa i)), fun σ H ρ μ s Q hr m h => ?_⟩⟩
  refine sa σ H ρ μ s _ hr m (wp_mono (wp_bind h) (fun v s1 h1 => ?_) fun _ _ q => q)
  intro x H1 μ1 g1 m1 r1
  show Q (.bl (!decide (x = .non))) H1
  rw [rep_isN r1]
  exact h1 _ H1 μ1 g1 m1 (by unfold Rep; rfl)
theorem rep_bl {K : PySem.W.Frag} {H : Hp} {μ : Mu} {x : V} {k : Bool} (h : Rep K H μ (.bl k) x) : x = .bl k := by unfold Rep at h; exact h
theorem rep_int {K : PySem.W.Frag} {H : Hp} {μ : Mu} {x : V} {k : Int} (h : Rep K H μ (.int k) x) : x = .int k := by unfold Rep at h; exact h
theorem rep_of_bl {K : PySem.W.Frag} {H : Hp} {μ : Mu} {k : Bool} : Rep K H μ (.bl k) (.bl k) := by unfold Rep; rfl
theorem rep_of_int {K : PySem.W.Frag} {H : Hp} {μ : Mu} {k : Int} : Rep K H μ (.int k) (.int k) := by unfold Rep; rfl
theorem rep_of_non {K : PySem.W.Frag} {H : Hp} {μ : Mu} : Rep K H μ .non .non := by unfold Rep; rfl
/-- and, or of truths -/
theorem me_one {op} (h : ME X K EW a ma) : ME X K EW (.BoolOp op [a] pos) ma := let ⟨t, p, q⟩ := h.ex; ⟨⟨t, fun i => pe_one (p i), q⟩⟩
theorem me_and {rest : List Expr} (ha : ME X K EW a ma) (hb : ME X K EW (.BoolOp .And (b :: rest) pos) mb) : ME X K EW (.BoolOp .And (a :: b :: rest) pos) (eAnd ma mb) := by
  obtain ⟨ta, pa, sa⟩ := ha.ex
  obtain ⟨tb, pb, sb⟩ := hb.ex
  refine ⟨⟨_, fun i => pe_and (pa i) (pb i), fun σ H ρ μ s Q hr m h => ?_⟩⟩
  refine sa σ H ρ μ s _ hr m (wp_mono (wp_bind h) (fun v s1 h1 => ?_) fun _ _ q => q)
  intro x H1 μ1 g1 m1 r1
  split at h1
  · refine ⟨true, rep_bl r1, ?_⟩
    rw [if_pos rfl]
    exact sb σ H1 ρ μ1 s1 _ (hr.mono g1 m) m1 (wp_mono h1 (fun _ _ q => q.mono g1) fun _ _ q => q.mono g1)
  · refine ⟨false, rep_bl r1, ?_⟩
    rw [if_neg Bool.false_ne_true]
    exact h1 _ H1 μ1 g1 m1 rep_of_bl
  · exact h1.elim
theorem me_or {rest : List Expr} (ha : ME X K EW a ma) (hb : ME X K EW (.BoolOp .Or (b :: rest) pos) mb) : ME X K EW (.BoolOp .Or (a :: b :: rest) pos) (eOr ma mb) := by
  obtain ⟨ta, pa, sa⟩ := ha.ex
  obtain ⟨tb, pb, sb⟩ := hb.ex
  refine ⟨⟨_, fun i => pe_or (pa i) (pb i), fun σ H ρ μ s Q hr m h => ?_⟩⟩
  refine sa σ H ρ μ s _ hr m (wp_mono (wp_bind h) (fun v s1 h1 => ?_) fun _ _ q => q)
  intro x H1 μ1 g1 m1 r1
  split at h1
  · refine ⟨true, rep_bl r1, ?_⟩
    rw [if_pos rfl]
    exact h1 _ H1 μ1 g1 m1 rep_of_bl
  · refine ⟨false, rep_bl r1, ?_⟩
    rw [if_neg Bool.false_ne_true]
    exact sb σ H1 ρ μ1 s1 _ (hr.mono g1 m) m1 (wp_mono h1 (fun _ _ q => q.mono g1) fun _ _ q => q.mono g1)
  · exact h1.elim
theorem me_not (ha : ME X K EW a ma) : ME X K EW (.UnaryOp .Not a pos) (eNot ma) := by
  obtain ⟨ta, pa, sa⟩ := ha.ex
  refine ⟨⟨_, fun i => pe_not (pa i), fun σ H ρ μ s Q hr m h => ?_⟩⟩
  refine sa σ H ρ μ s _ hr m (wp_mono (wp_bind h) (fun v s1 h1 => ?_) fun _ _ q => q)
  intro x H1 μ1 g1 m1 r1
  split at h1
  · exact ⟨_, rep_bl r1, h1 _ H1 μ1 g1 m1 rep_of_bl⟩
  · exact h1.elim
/-- tests -/
theorem mt_val (ha : ME X K EW a ma) (he : ∀ i whole, isTrue a (X i).env whole = (do let v ← whole; standAt a.pos; holding [v] (truthy v)) := by intro _ _; rfl) : MT X K EW a (tVal ma) := by
  obtain ⟨ta, pa, sa⟩ := ha.ex
  refine ⟨⟨_, fun i => pt_val (pa i) (he i), fun σ H ρ μ s Q hr m h => ?_⟩⟩
  refine sa σ H ρ μ s _ hr m (wp_mono (wp_bind h) (fun v s1 h1 => ?_) fun _ _ q => q)
  intro x H1 μ1 g1 m1 r1
  split at h1
  · exact ⟨_, rep_bl r1, h1 H1 μ1 g1 m1⟩
  · exact h1.elim
/-- a comparison as a test -/
theorem mt_cmp {op : CmpOp} {g : S → Val → Val → Option Val} (o : OpS X K (compareOp op) g) (ha : ME X K EW a ma) (hb : ME X K EW b mb) (hm : behindInMarks op b = false := by first | exact nomark _ | rfl) : MT X K EW (.Compare a [op] [b] pos) (tVal (eOp g ma mb)) := by
  obtain ⟨ta, pa, sa⟩ := ha.ex
  obtain ⟨tb, pb, sb⟩ := hb.ex
  obtain ⟨r, pr, sr⟩ := o
  refine ⟨⟨_, fun i => pt_cmpR (pr i) (pa i) (pb i) hm, fun σ H ρ μ s Q hr m h => ?_⟩⟩
  have h := wp_bind h
  refine sa σ H ρ μ s _ hr m (wp_mono (wp_bind h) (fun v s1 h1 => ?_) fun _ _ q => q)
  intro x H1 μ1 g1 m1 r1
  refine sb σ H1 ρ μ1 s1 _ (hr.mono g1 m) m1 (wp_mono (wp_bind h1) (fun u s2 h2 => ?_) fun _ _ q => q.mono g1)
  intro y H2 μ2 g2 m2 r2
  obtain ⟨w, e, q⟩ := wp_ofO h2
  refine sr x y H2 μ2 s2 v u w m2 (Rep.mono g2 m1 v x r1) r2 e _ ?_
  intro z H3 μ3 g3 m3 r3
  split at q
  · exact ⟨_, rep_bl r3, q H3 μ3 ((g1.trans g2).trans g3) m3⟩
  · exact q.elim
theorem mt_isN {j pos'} (ha : ME X K EW a ma) : MT X K EW (.Compare a [.Is] [.Constant .none j pos'] pos) (tVal (eIsN ma)) := by
  obtain ⟨ta, pa, sa⟩ := ha.ex
  refine ⟨⟨_, fun i => pt_cmp (pc_isN (pa i)), fun σ H ρ μ s Q hr m h => ?_⟩⟩
  refine sa σ H ρ μ s _ hr m (wp_mono (wp_bind (wp_bind h)) (fun v s1 h1 => ?_) fun _ _ q => q)
  intro x H1 μ1 g1 m1 r1
  exact ⟨_, rfl, by rw [rep_isN r1]; exact h1 H1 μ1 g1 m1⟩
theorem mt_notN {j pos'} (ha : ME X K EW a ma) : MT X K EW (.Compare a [.IsNot] [.Constant .none j pos'] pos) (tVal (eNotN ma)) := by
  obtain ⟨ta, pa, sa⟩ := ha.ex
  refine ⟨⟨_, fun i => pt_cmp (pc_notN (pa i)), fun σ H ρ μ s Q hr m h => ?_⟩⟩
  refine sa σ H ρ μ s _ hr m (wp_mono (wp_bind (wp_bind h)) (fun v s1 h1 => ?_) fun _ _ q => q)
  intro x H1 μ1 g1 m1 r1
  exact ⟨_, rfl, by rw [rep_isN r1]; exact h1 H1 μ1 g1 m1⟩
theorem mw_and1 (ha : MT X K EW a mt) : MW X K EW (.BoolOp .And [a] pos) mt := let ⟨t, p, q⟩ := ha.ex; ⟨⟨t, fun i => pw_and1 (p i), q⟩⟩
theorem mw_or1 (ha : MT X K EW a mt) : MW X K EW (.BoolOp .Or [a] pos) mt := let ⟨t, p, q⟩ := ha.ex; ⟨⟨t, fun i => pw_or1 (p i), q⟩⟩
theorem mw_mt (ha : MW X K EW a mt) : MT X K EW a mt := let ⟨t, p, q⟩ := ha.ex; ⟨⟨t, fun i => PW.pt (p i), q⟩⟩
theorem mw_and {rest : List Expr} (ha : MT X K EW a mt) (hb : MW X K EW (.BoolOp .And (b :: rest) pos) mu) : MW X K EW (.BoolOp .And (a :: b :: rest) pos) (tAnd mt mu) := by
  obtain ⟨ta, pa, sa⟩ := ha.ex
  obtain ⟨tb, pb, sb⟩ := hb.ex
  refine ⟨⟨_, fun i => pw_and (pa i) (pb i), fun σ H ρ μ s Q hr m h => ?_⟩⟩
  refine sa σ H ρ μ s _ hr m (wp_mono (wp_bind h) (fun v s1 h1 => ?_) fun _ _ q => q)
  intro H1 μ1 g1 m1
  cases v with
  | true =>
    rw [if_pos rfl] at h1 ⊢
    exact sb σ H1 ρ μ1 s1 _ (hr.mono g1 m) m1 (wp_mono h1 (fun _ _ q => q.mono g1) fun _ _ q => q.mono g1)
  | false =>
    rw [if_neg Bool.false_ne_true] at h1 ⊢
    exact h1 H1 μ1 g1 m1
theorem mw_or {rest : List Expr} (ha : MT X K EW a mt) (hb : MW X K EW (.BoolOp .Or (b :: rest) pos) mu) : MW X K EW (.BoolOp .Or (a :: b :: rest) pos) (tOr mt mu) := by
  obtain ⟨ta, pa, sa⟩ := ha.ex
  obtain ⟨tb, pb, sb⟩ := hb.ex
  refine ⟨⟨_, fun i => pw_or (pa i) (pb i), fun σ H ρ μ s Q hr m h => ?_⟩⟩
  refine sa σ H ρ μ s _ hr m (wp_mono (wp_bind h) (fun v s1 h1 => ?_) fun _ _ q => q)
  intro H1 μ1 g1 m1
  cases v with
  | true =>
    rw [if_pos rfl] at h1 ⊢
    exact h1 H1 μ1 g1 m1
  | false =>
    rw [if_neg Bool.false_ne_true] at h1 ⊢
    exact sb σ H1 ρ μ1 s1 _ (hr.mono g1 m) m1 (wp_mono h1 (fun _ _ q => q.mono g1) fun _ _ q => q.mono g1)
theorem mt_not (ha : MT X K EW a mt) : MT X K EW (.UnaryOp .Not a pos) (tNot mt) := by
  obtain ⟨ta, pa, sa⟩ := ha.ex
  refine ⟨⟨_, fun i => pt_not (pa i), fun σ H ρ μ s Q hr m h => ?_⟩⟩
  refine sa σ H ρ μ s _ hr m (wp_mono (wp_bind h) (fun v s1 h1 => ?_) fun _ _ q => q)
  intro H1 μ1 g1 m1
  exact h1 H1 μ1 g1 m1
theorem me_if (hc : MT X K EW c mt) (ha : ME X K EW a ma) (hb : ME X K EW b mb) : ME X K EW (.IfExp c a b pos) (eIf mt ma mb) := by
  obtain ⟨tc, pc, sc⟩ := hc.ex
  obtain ⟨ta, pa, sa⟩ := ha.ex
  obtain ⟨tb, pb, sb⟩ := hb.ex
  refine ⟨⟨_, fun i => pe_ifExp (pc i) (pa i) (pb i), fun σ H ρ μ s Q hr m h => ?_⟩⟩
  refine sc σ H ρ μ s _ hr m (wp_mono (wp_bind h) (fun v s1 h1 => ?_) fun _ _ q => q)
  intro H1 μ1 g1 m1
  cases v with
  | true =>
    rw [if_pos rfl] at h1 ⊢
    exact sa σ H1 ρ μ1 s1 _ (hr.mono g1 m) m1 (wp_mono h1 (fun _ _ q => q.mono g1) fun _ _ q => q.mono g1)
  | false =>
    rw [if_neg Bool.false_ne_true] at h1 ⊢
    exact sb σ H1 ρ μ1 s1 _ (hr.mono g1 m) m1 (wp_mono h1 (fun _ _ q => q.mono g1) fun _ _ q => q.mono g1)
/-- arguments, displays -/
theorem ma_nil : MA X K EW [] aNil := ⟨fun ρ s xs s' h => by cases h; rfl, ⟨_, fun _ => pa_nil, fun σ H ρ μ s Q hr m h => h [] H μ (.refl m) m .nil⟩⟩
theorem ma_cons (ha : ME X K EW a ma) (hb : MA X K EW es mas) (hs : ∀ i, starEach (a :: es) (X i).env = (false, eval a (X i).env) :: starEach es (X i).env := by intro _; rfl) : MA X K EW (a :: es) (aCons ma mas) := by
  obtain ⟨ta, pa, sa⟩ := ha.ex
  obtain ⟨tb, pb, sb⟩ := hb.ex
  refine ⟨fun ρ s xs s' h => ?_, ⟨_, fun i => pa_cons (pa i) (pb i) (hs i), fun σ H ρ μ s Q hr m h => ?_⟩⟩
  · unfold aCons at h
    cases e1 : ma ρ s with
    | ok x s1 =>
      rw [e1, bind_ok] at h
      cases e2 : mas ρ s1 with
      | ok ys s2 =>
        rw [e2, bind_ok] at h
        cases h
        simp [hb.len _ _ _ _ e2]
      | ex _ _ => rw [e2] at h; cases h
      | no => rw [e2] at h; cases h
    | ex _ _ => rw [e1] at h; cases h
    | no => rw [e1] at h; cases h
  refine sa σ H ρ μ s _ hr m (wp_mono (wp_bind h) (fun v s1 h1 => ?_) fun _ _ q => q)
  intro x H1 μ1 g1 m1 r1
  refine sb σ H1 ρ μ1 s1 _ (hr.mono g1 m) m1 (wp_mono (wp_bind h1) (fun u s2 h2 => ?_) fun _ _ q => q.mono g1)
  intro y H2 μ2 g2 m2 r2
  exact h2 (x :: y) H2 μ2 (g1.trans g2) m2 (.cons (Rep.mono g2 m1 v x r1) r2)
theorem wp_len {α : Type} {r : R α} {Q : α → S → Prop} {E : Exn → S → Prop} (h : r.wp Q E) : r.wp (fun a s => r = .ok a s ∧ Q a s) E := by
  cases r with
  | ok a s => exact ⟨rfl, h⟩
  | ex e s => exact h
  | no => exact h
theorem me_tup {k} (ha : MA X K EW es mas) (hl : es.length ≤ sizeLine := by decide) : ME X K EW (.Tuple es k pos) (eTup mas) := by
  obtain ⟨ta, pa, sa⟩ := ha.ex
  refine ⟨⟨_, fun i => pe_tupF (pa i), fun σ H ρ μ s Q hr m h => ?_⟩⟩
  refine sa σ H ρ μ s _ hr m (wp_mono (wp_len (wp_bind h)) (fun v s1 h1 => ?_) fun _ _ q => q)
  obtain ⟨e1, h1⟩ := h1
  intro x H1 μ1 g1 m1 r1
  have el : x.length ≤ sizeLine := by rw [r1.length, ha.len _ _ _ _ e1]; exact hl
  refine ⟨el, fun p u hp tu => ?_⟩
  have g2 : Grow μ1 H1 μ1 (upd H1 p u) := m1.new hp
  refine h1 _ _ μ1 (g1.trans g2) (m1.upd_new hp) ?_
  unfold Rep
  exact ⟨p, x, rfl, .of upd_same tu, el, RepAll.mono g2 m1 _ _ r1⟩
/-- a new list: dead at once, alive -/
theorem dead_snd {t : TE} {mf : Fx} (q : ∀ σ H ρ μ s Q, SR K H μ ρ σ → Mem K H μ s → (mf ρ s).wp (FsP K μ H Q) (XP K μ H EW) → t σ H Q) :
    ∀ σ H ρ μ s Q, SR K H μ ρ σ → Mem K H μ s → (eDead mf ρ s).wp (VP K μ H Q) (XP K μ H EW) → t σ H Q := by
  intro σ H ρ μ s Q hr m h
  refine q σ H ρ μ s Q hr m (wp_mono (wp_bind h) (fun xs s1 h1 => ?_) fun _ _ q => q)
  intro a vs H' μ' g m' ha hh e hl r
  have off : Off μ' a := m'.offHid hh
  refine h1 (.ref a) H' μ' (g.unhide (m.off ha)) m'.unhide ?_
  unfold Rep
  exact ⟨a, vs, rfl, e, off, hl, r.unhide⟩
theorem me_dead {mf : Fx} (hf : MF X K EW a mf) : ME X K EW a (eDead mf) := by
  obtain ⟨t, p, q⟩ := hf.ex
  exact ⟨⟨t, p, dead_snd q⟩⟩
mutual
theorem rep_below {K : PySem.W.Frag} {H : Hp} {μ : Mu} : ∀ (v : Val) (x : V), Rep K H μ v x → below μ.fr.length v = true
  | .non, _, _ => by simp [below]
  | .bl _, _, _ => by simp [below]
  | .int _, _, _ => by simp [below]
  | .str _, _, _ => by simp [below]
  | .tup xs, x, h => by
    unfold Rep at h; unfold below
    obtain ⟨_, vs, _, _, _, hr⟩ := h
    exact repAll_below xs vs hr
  | .lst xs, x, h => by
    unfold Rep at h; unfold below
    obtain ⟨_, vs, _, _, _, _, hr⟩ := h
    exact repAll_below xs vs hr
  | .scr xs, x, h => by
    unfold Rep at h; unfold below
    obtain ⟨_, vs, _, _, _, hr⟩ := h
    exact repAll_below xs vs hr
  | .dct _ _, x, h => by unfold Rep at h; exact h.elim
  | .ref f n, x, h => by
    unfold Rep at h; unfold below
    obtain ⟨a, _, e⟩ := h
    exact decide_eq_true (lk_lt e)
theorem repAll_below {K : PySem.W.Frag} {H : Hp} {μ : Mu} : ∀ (v : List Val) (x : List V), RepAll K H μ v x → belowAll μ.fr.length v = true
  | [], _, _ => by simp [belowAll]
  | v :: vs, x, h => by
    unfold RepAll at h; unfold belowAll
    obtain ⟨w, ws, _, h1, h2⟩ := h
    rw [rep_below v w h1, repAll_below vs ws h2]; rfl
end
theorem live_snd {t : TE} {mf : Fx} (q : ∀ σ H ρ μ s Q, SR K H μ ρ σ → Mem K H μ s → (mf ρ s).wp (FsP K μ H Q) (XP K μ H EW) → t σ H Q) :
    ∀ σ H ρ μ s Q, SR K H μ ρ σ → Mem K H μ s → (eLive mf ρ s).wp (VP K μ H Q) (XP K μ H EW) → t σ H Q := by
  intro σ H ρ μ s Q hr m h
  refine q σ H ρ μ s Q hr m (wp_mono (wp_bind h) (fun xs s1 h1 => ?_) fun _ _ q => q)
  intro a vs H' μ' g m' ha hh e hl r
  cases s1 with
  | nil => exact h1.elim
  | cons fr s1 =>
    have bl : belowAll (s1.length + 1) xs = true := by
      have q := repAll_below xs vs r
      rw [m'.len] at q
      exact q
    obtain ⟨m2, r2⟩ := m'.comes e hl r bl hh
    exact h1 (.ref a) H' (μ'.ext a) (g.comes ha (m.off ha)) m2 r2
theorem me_live {mf : Fx} (hf : MF X K EW a mf) : ME X K EW a (eLive mf) := by
  obtain ⟨t, p, q⟩ := hf.ex
  exact ⟨⟨t, p, live_snd q⟩⟩
end
end FM

set_option autoImplicit false
/-! operators, builtins and methods by values -/
namespace FM
open PySem PySem.Spec PyProof.Rows L2
variable [Tbl]

structure CxF {ι : Type} (X : ι → Cx) (K : PySem.W.Frag) : Prop where
  calm : ∀ i, (X i).calm = true
  nd : ∀ i, (X i).N.Nodup
  un : ∀ i, (X i).A.units + 100 < cLine
  kk : ∀ i, (X i).K = K

section
variable {K : PySem.W.Frag} {H : Hp} {μ : Mu} {s : S}
mutual
theorem pure_dp : ∀ (v : Val) (x : V), Rep K H μ v x → pure v = true → Dp K H x (toD v) ∧ (toD v).canLay0 = true
  | .non, x, h, _ => by unfold Rep at h; rw [h]; exact ⟨.non, by simp [toD, PyData.canLay0]⟩
  | .bl b, x, h, _ => by unfold Rep at h; rw [h]; exact ⟨.bl b, by simp [toD, PyData.canLay0]⟩
  | .int i, x, h, _ => by unfold Rep at h; rw [h]; exact ⟨.int i, by simp [toD, PyData.canLay0]⟩
  | .str z, x, h, p => by unfold Rep at h; unfold pure at p; rw [h]; exact ⟨.str z, by simp [toD, PyData.canLay0, p]⟩
  | .tup xs, x, h, p => by
    unfold Rep at h; unfold pure at p
    obtain ⟨a, vs, e, hq, _, hr⟩ := h
    obtain ⟨h1, h2⟩ := pureAll_dp xs vs hr p
    rw [e]
    exact ⟨by unfold toD; exact .tup hq.sqT h1, by unfold toD PyData.canLay0; exact h2⟩
  | .lst xs, x, h, p => by
    unfold Rep at h; unfold pure at p
    obtain ⟨a, vs, e, hq, _, _, hr⟩ := h
    obtain ⟨h1, h2⟩ := pureAll_dp xs vs hr p
    rw [e]
    exact ⟨by unfold toD; exact .lst (.of hq) h1, by unfold toD PyData.canLay0; exact h2⟩
  | .scr xs, x, h, p => by
    unfold Rep at h; unfold pure at p
    obtain ⟨a, vs, e, hq, _, hr⟩ := h
    obtain ⟨h1, h2⟩ := pureAll_dp xs vs hr p
    rw [e]
    have hS : SqL K H a vs := hq.elim (fun q => .inl q.1) (fun q => q H)
    exact ⟨by unfold toD; exact .lst hS h1, by unfold toD PyData.canLay0; exact h2⟩
  | .dct _ _, x, h, _ => by unfold Rep at h; exact h.elim
  | .ref _ _, x, h, p => by simp [pure] at p
theorem pureAll_dp : ∀ (v : List Val) (x : List V), RepAll K H μ v x → pureAll v = true → DpAll K H x (toDs v) ∧ PyData.canLayAll0 (toDs v) = true
  | [], x, h, _ => by unfold RepAll at h; rw [h]; exact ⟨.nil, by simp [toDs, PyData.canLayAll0]⟩
  | v :: vs, x, h, p => by
    unfold RepAll at h; unfold pureAll at p
    obtain ⟨w, ws, e, h1, h2⟩ := h
    simp only [Bool.and_eq_true] at p
    obtain ⟨a1, a2⟩ := pure_dp v w h1 p.1
    obtain ⟨b1, b2⟩ := pureAll_dp vs ws h2 p.2
    rw [e]
    exact ⟨by unfold toDs; exact .cons a1 b1, by unfold toDs PyData.canLayAll0; rw [a2, b2]; rfl⟩
end
theorem mapM_cons {α β : Type} {f : α → Option β} {x : α} {xs : List α} {ws : List β} (h : (x :: xs).mapM f = some ws) : ∃ w r, ws = w :: r ∧ f x = some w ∧ xs.mapM f = some r := by
  rw [List.mapM_cons] at h
  cases e : f x with
  | none => rw [e] at h; simp at h
  | some w =>
    rw [e] at h
    cases e2 : xs.mapM f with
    | none => rw [e2] at h; simp at h
    | some r =>
      rw [e2] at h
      simp at h
      exact ⟨w, r, h.symm, rfl, rfl⟩
theorem mapM_dp {f : Val → Option Val} (hf : ∀ v x w, Rep K H μ v x → f v = some w → Dp K H x (toD w) ∧ (toD w).canLay0 = true) : ∀ (v : List Val) (x : List V) (ws : List Val), RepAll K H μ v x → v.mapM f = some ws → DpAll K H x (toDs ws) ∧ PyData.canLayAll0 (toDs ws) = true
  | [], x, ws, h, e => by
    unfold RepAll at h
    have : ws = [] := by simpa using e.symm
    rw [h, this]; exact ⟨.nil, by simp [toDs, PyData.canLayAll0]⟩
  | v :: vs, x, ws, h, e => by
    unfold RepAll at h
    obtain ⟨w, us, e1, h1, h2⟩ := h
    obtain ⟨y, r, e2, e3, e4⟩ := mapM_cons e
    obtain ⟨a1, a2⟩ := hf v w y h1 e3
    obtain ⟨b1, b2⟩ := mapM_dp hf vs us r h2 e4
    rw [e1, e2]
    exact ⟨by unfold toDs; exact .cons a1 b1, by unfold toDs PyData.canLayAll0; rw [a2, b2]; rfl⟩
theorem res_dp (m : Mem K H μ s) : ∀ (k : Nat) (v : Val) (x : V) (w : Val), Rep K H μ v x → res s k v = some w → Dp K H x (toD w) ∧ (toD w).canLay0 = true
  | 0, v, x, w, h, e => by
    unfold res at e
    split at e
    · rename_i p; cases e; exact pure_dp v x h p
    · cases e
  | k + 1, v, x, w, h, e => by
    unfold res at e
    split at e
    · rename_i p; cases e; exact pure_dp v x h p
    · split at e
      · rename_i f n _
        unfold Rep at h
        obtain ⟨a, ea, el⟩ := h
        split at e
        · rename_i ys el2
          obtain ⟨vs, hv, _, hr⟩ := m.cel f n a _ el el2
          cases em : List.mapM (res s k) ys with
          | none => rw [em] at e; cases e
          | some ws =>
            rw [em] at e
            cases e
            obtain ⟨h1, h2⟩ := mapM_dp (fun v x w => res_dp m k v x w) ys vs ws hr em
            rw [ea]
            exact ⟨by unfold toD; exact .lst (.of hv) h1, by unfold toD PyData.canLay0; exact h2⟩
        · cases e
      · rename_i xs _
        unfold Rep at h
        obtain ⟨a, vs, ea, hq, _, hr⟩ := h
        cases em : List.mapM (res s k) xs with
        | none => rw [em] at e; cases e
        | some ws =>
          rw [em] at e
          cases e
          obtain ⟨h1, h2⟩ := mapM_dp (fun v x w => res_dp m k v x w) xs vs ws hr em
          rw [ea]
          exact ⟨by unfold toD; exact .tup hq.sqT h1, by unfold toD PyData.canLay0; exact h2⟩
      · rename_i xs _
        unfold Rep at h
        obtain ⟨a, vs, ea, hq, _, _, hr⟩ := h
        cases em : List.mapM (res s k) xs with
        | none => rw [em] at e; cases e
        | some ws =>
          rw [em] at e
          cases e
          obtain ⟨h1, h2⟩ := mapM_dp (fun v x w => res_dp m k v x w) xs vs ws hr em
          rw [ea]
          exact ⟨by unfold toD; exact .lst (.of hq) h1, by unfold toD PyData.canLay0; exact h2⟩
      · cases e
/-- a list, a tuple, to be read -/
theorem rep_asL (m : Mem K H μ s) {v : Val} {x : V} {xs : List Val} (h : Rep K H μ v x) (e : asL s v = some xs) : ∃ a vs, x = .ref a ∧ SqL K H a vs ∧ vs.length ≤ sizeLine ∧ RepAll K H μ xs vs := by
  cases v with
  | lst ys =>
    cases e
    unfold Rep at h
    obtain ⟨a, vs, ea, hq, _, hl, hr⟩ := h
    exact ⟨a, vs, ea, .of hq, hl, hr⟩
  | scr ys =>
    cases e
    unfold Rep at h
    obtain ⟨a, vs, ea, hq, hl, hr⟩ := h
    exact ⟨a, vs, ea, hq.elim (fun q => .inl q.1) (fun q => q H), hl, hr⟩
  | ref f n =>
    unfold Rep at h
    obtain ⟨a, ea, el⟩ := h
    simp only [asL] at e
    split at e
    · rename_i ys el2
      cases e
      obtain ⟨vs, hv, hl, hr⟩ := m.cel f n a _ el el2
      exact ⟨a, vs, ea, .of hv, hl, hr⟩
    · cases e
  | _ => cases e
/-- .. as a tracked list (not the script) -/
theorem rep_asL' (m : Mem K H μ s) {v : Val} {x : V} {xs : List Val} (h : Rep K H μ v x) (e : asL s v = some xs) (ns : ∀ ys, v ≠ .scr ys) : ∃ a vs, x = .ref a ∧ H a = some (.lst vs) ∧ vs.length ≤ sizeLine ∧ RepAll K H μ xs vs := by
  cases v with
  | lst ys =>
    cases e
    unfold Rep at h
    obtain ⟨a, vs, ea, hq, _, hl, hr⟩ := h
    exact ⟨a, vs, ea, hq, hl, hr⟩
  | scr ys => exact (ns ys rfl).elim
  | ref f n =>
    unfold Rep at h
    obtain ⟨a, ea, el⟩ := h
    simp only [asL] at e
    split at e
    · rename_i ys el2
      cases e
      obtain ⟨vs, hv, hl, hr⟩ := m.cel f n a _ el el2
      exact ⟨a, vs, ea, hv, hl, hr⟩
    · cases e
  | _ => cases e
theorem rep_asQ (m : Mem K H μ s) {v : Val} {x : V} {xs : List Val} (h : Rep K H μ v x) (e : asQ s v = some xs) : ∃ a vs, x = .ref a ∧ (SqL K H a vs ∨ SqT K H a vs) ∧ vs.length ≤ sizeLine ∧ RepAll K H μ xs vs := by
  unfold asQ at e
  split at e
  · cases e
    unfold Rep at h
    obtain ⟨a, vs, ea, hq, hl, hr⟩ := h
    exact ⟨a, vs, ea, .inr hq.sqT, hl, hr⟩
  · obtain ⟨a, vs, ea, hq, hl, hr⟩ := rep_asL m h e
    exact ⟨a, vs, ea, .inl hq, hl, hr⟩
theorem rep_tup {xs : List Val} {x : V} (h : Rep K H μ (.tup xs) x) : ∃ a vs, x = .ref a ∧ RTup K H a vs ∧ vs.length ≤ sizeLine ∧ RepAll K H μ xs vs := by
  unfold Rep at h; exact h
theorem rep_str {z : Str} {x : V} (h : Rep K H μ (.str z) x) : x = .str z := by unfold Rep at h; exact h
theorem intsOf_rep : ∀ {xs : List Val} {vs : List V} {ns : List Int}, RepAll K H μ xs vs → intsOf xs = some ns → vs = ns.map V.int ∧ xs = ns.map Val.int
  | [], vs, ns, h, e => by
    unfold RepAll at h
    cases e; exact ⟨h, rfl⟩
  | v :: xs, vs, ns, h, e => by
    unfold RepAll at h
    obtain ⟨w, ws, e1, h1, h2⟩ := h
    cases v with
    | int i =>
      simp only [intsOf] at e
      cases e2 : intsOf xs with
      | none => rw [e2] at e; cases e
      | some r =>
        rw [e2] at e
        cases e
        obtain ⟨a, b⟩ := intsOf_rep h2 e2
        rw [e1, a, b, rep_int h1]
        exact ⟨rfl, rfl⟩
    | _ => simp [intsOf] at e
theorem repInts : ∀ (ns : List Int), RepAll K H μ (ns.map Val.int) (ns.map V.int)
  | [] => .nil
  | n :: ns => .cons rep_of_int (repInts ns)
theorem boolsOf_rep : ∀ {xs : List Val} {vs : List V} {ns : List Bool}, RepAll K H μ xs vs → boolsOf xs = some ns → vs = ns.map V.bl
  | [], vs, ns, h, e => by
    unfold RepAll at h
    cases e; exact h
  | v :: xs, vs, ns, h, e => by
    unfold RepAll at h
    obtain ⟨w, ws, e1, h1, h2⟩ := h
    cases v with
    | bl i =>
      simp only [boolsOf] at e
      cases e2 : boolsOf xs with
      | none => rw [e2] at e; cases e
      | some r =>
        rw [e2] at e
        cases e
        rw [e1, boolsOf_rep h2 e2, rep_bl h1]
        rfl
    | _ => simp [boolsOf] at e
end

section
variable {X : Cx}
theorem OpR.or {f : Value → Value → Sem Value} {r r' : R2} (h : OpR X f r) (h' : OpR X f r') : OpR X f (fun x y H Q => r x y H Q ∨ r' x y H Q) := by
  intro pins s σ H x y v u Q I rx ry q
  rcases q with q | q
  · exact h pins s σ H x y v u Q I rx ry q
  · exact h' pins s σ H x y v u Q I rx ry q
/-! ### == -/
def rEqC (K : PySem.W.Frag) : R2 := fun x y H Q => ∃ d e, Dp K H x d ∧ Dp K H y e ∧ d.canLay0 = true ∧ e.canLay0 = true ∧ min d.depth e.depth ≤ 64 ∧ Q (.bl (PyData.eqv d e)) H
def rNeC (K : PySem.W.Frag) : R2 := fun x y H Q => ∃ d e, Dp K H x d ∧ Dp K H y e ∧ d.canLay0 = true ∧ e.canLay0 = true ∧ min d.depth e.depth ≤ 64 ∧ Q (.bl (!PyData.eqv d e)) H
theorem op_eqC (hu : X.A.units + 100 < cLine) : OpR X (compareOp .Eq) (rEqC X.K) := by
  intro pins s σ H x y v u Q I rx ry h
  obtain ⟨d, e, hd, he, sd, se, hm, q⟩ := h
  obtain ⟨as, r1⟩ := Dp.reads I d x v hd rx
  obtain ⟨bs, r2⟩ := Dp.reads I e y u he ry
  exact SeqAt.compareEq_reads r1 r2 sd se (by omega) ⟨.bl _, H, I, rfl, q⟩
theorem op_neC (hu : X.A.units + 100 < cLine) : OpR X (compareOp .NotEq) (rNeC X.K) := by
  intro pins s σ H x y v u Q I rx ry h
  obtain ⟨d, e, hd, he, sd, se, hm, q⟩ := h
  obtain ⟨as, r1⟩ := Dp.reads I d x v hd rx
  obtain ⟨bs, r2⟩ := Dp.reads I e y u he ry
  exact SeqAt.compareNe_reads r1 r2 sd se (by omega) ⟨.bl _, H, I, rfl, q⟩
end
section
variable {ι : Type} {X : ι → Cx} {K : PySem.W.Frag}
theorem os_eq (c : CxF X K) : OpS X K (compareOp .Eq) opEq := by
  refine ⟨fun x y H Q => rEq x y H Q ∨ rEqC K x y H Q, fun i => OpR.or op_eq (c.kk i ▸ op_eqC (c.un i)), fun x y H μ s a b v m ra rb e Q q => ?_⟩
  unfold opEq at e
  split at e
  · rename_i z z'
    cases e
    rw [rep_str ra, rep_str rb]
    refine .inl ⟨rfl, ?_⟩
    have e : decide (V.str z = V.str z') = decide (z = z') := by by_cases h : z = z' <;> simp [h]
    rw [e]
    exact q _ H μ (.refl m) m rep_of_bl
  · split at e
    · rename_i u w e1 e2
      split at e
      · rename_i hs
        cases e
        obtain ⟨h1, h2⟩ := res_dp m 8 a x u ra e1
        obtain ⟨h3, h4⟩ := res_dp m 8 b y w rb e2
        exact .inr ⟨toD u, toD w, h1, h3, h2, h4, of_decide_eq_true hs, q _ H μ (.refl m) m rep_of_bl⟩
      · cases e
    · cases e
theorem os_ne (c : CxF X K) : OpS X K (compareOp .NotEq) opNe := by
  refine ⟨fun x y H Q => rNe x y H Q ∨ rNeC K x y H Q, fun i => OpR.or op_ne (c.kk i ▸ op_neC (c.un i)), fun x y H μ s a b v m ra rb e Q q => ?_⟩
  unfold opNe at e
  split at e
  · rename_i z z'
    cases e
    rw [rep_str ra, rep_str rb]
    refine .inl ⟨rfl, ?_⟩
    have e : (!decide (V.str z = V.str z')) = !decide (z = z') := by by_cases h : z = z' <;> simp [h]
    rw [e]
    exact q _ H μ (.refl m) m rep_of_bl
  · split at e
    · rename_i u w e1 e2
      split at e
      · rename_i hs
        cases e
        obtain ⟨h1, h2⟩ := res_dp m 8 a x u ra e1
        obtain ⟨h3, h4⟩ := res_dp m 8 b y w rb e2
        exact .inr ⟨toD u, toD w, h1, h3, h2, h4, of_decide_eq_true hs, q _ H μ (.refl m) m rep_of_bl⟩
      · cases e
    · cases e
/-! ### order of ints -/
theorem os_int {op : CmpOp} {f : Int → Int → Bool} (h : ∀ i, OpR (X i) (compareOp op) (rI0 fun i j => .bl (f i j))) : OpS X K (compareOp op) (opI f) := by
  refine ⟨_, h, fun x y H μ s a b v m ra rb e Q q => ?_⟩
  unfold opI at e
  split at e
  · cases e
    exact ⟨_, _, rep_int ra, rep_int rb, q _ H μ (.refl m) m rep_of_bl⟩
  · cases e
theorem os_lt : OpS X K (compareOp .Lt) opLt := os_int fun _ => op_lt
theorem os_le : OpS X K (compareOp .LtE) opLe := os_int fun _ => op_le
theorem os_gt : OpS X K (compareOp .Gt) opGt := os_int fun _ => op_gt
theorem os_ge : OpS X K (compareOp .GtE) opGe := os_int fun _ => op_ge
/-! ### in -/
def rInC (K : PySem.W.Frag) (neg : Bool) : R2 := fun x y H Q => ∃ d ds, Dp K H x d ∧ (Dp K H y (.list ds) ∨ Dp K H y (.tuple ds)) ∧ d.canLay0 = true ∧ PyData.canLayAll0 ds = true ∧ min (PyData.depthAll ds) d.depth ≤ 64 ∧ Q (.bl (if neg then !ds.any fun z => PyData.eqv z d else ds.any fun z => PyData.eqv z d)) H
theorem op_inC {X : Cx} (hu : X.A.units + 100 < cLine) : OpR X (compareOp .In) (rInC X.K false) := by
  intro pins s σ H x y v u Q I rx ry h
  obtain ⟨d, ds, hd, he, sd, se, hm, q⟩ := h
  obtain ⟨as, r1⟩ := Dp.reads I d x v hd rx
  rcases he with he | he
  · obtain ⟨bs, r2⟩ := Dp.reads I (.list ds) y u he ry
    exact SeqAt.in_list_reads r2 r1 se sd (by omega) ⟨.bl _, H, I, rfl, q⟩
  · obtain ⟨bs, r2⟩ := Dp.reads I (.tuple ds) y u he ry
    exact SeqAt.in_tuple_reads r2 r1 se sd (by omega) ⟨.bl _, H, I, rfl, q⟩
theorem op_notInC {X : Cx} (hu : X.A.units + 100 < cLine) : OpR X (compareOp .NotIn) (rInC X.K true) := by
  intro pins s σ H x y v u Q I rx ry h
  obtain ⟨d, ds, hd, he, sd, se, hm, q⟩ := h
  obtain ⟨as, r1⟩ := Dp.reads I d x v hd rx
  rcases he with he | he
  · obtain ⟨bs, r2⟩ := Dp.reads I (.list ds) y u he ry
    exact SeqAt.notIn_list_reads r2 r1 se sd (by omega) ⟨.bl _, H, I, rfl, q⟩
  · obtain ⟨bs, r2⟩ := Dp.reads I (.tuple ds) y u he ry
    exact SeqAt.notIn_tuple_reads r2 r1 se sd (by omega) ⟨.bl _, H, I, rfl, q⟩
theorem any_toDs (a : PyData) : ∀ ys : List Val, ((toDs ys).any fun z => PyData.eqv z a) = ys.any fun z => PyData.eqv (toD z) a
  | [] => rfl
  | y :: ys => by unfold toDs; simp only [List.any_cons, any_toDs a ys]
theorem inQ_dp {H : Hp} {μ : Mu} {s : S} {x y : V} {a b : Val} {r : Bool} (m : Mem K H μ s) (ra : Rep K H μ a x) (rb : Rep K H μ b y) (e : inQ s a b = some r) :
    ∃ d ds, Dp K H x d ∧ (Dp K H y (.list ds) ∨ Dp K H y (.tuple ds)) ∧ d.canLay0 = true ∧ PyData.canLayAll0 ds = true ∧ min (PyData.depthAll ds) d.depth ≤ 64 ∧ r = ds.any fun z => PyData.eqv z d := by
  unfold inQ at e
  split at e
  · rename_i xs exs
    split at e
    · rename_i u ys e1 e2
      split at e
      · rename_i hs
        cases e
        obtain ⟨h1, h2⟩ := res_dp m 8 a x u ra e1
        obtain ⟨p, vs, ep, hq, _, hr⟩ := rep_asQ m rb exs
        obtain ⟨h3, h4⟩ := mapM_dp (fun v x w => res_dp m 8 v x w) xs vs ys hr e2
        refine ⟨toD u, toDs ys, h1, ?_, h2, h4, ?_, (any_toDs _ _).symm⟩
        · rw [ep]
          rcases hq with hq | hq
          · exact .inl (.lst hq h3)
          · exact .inr (.tup hq h3)
        · have q : min (toD (.lst ys)).depth (toD u).depth ≤ 64 := of_decide_eq_true hs
          simp only [toD, PyData.depth] at q
          omega
      · cases e
    · cases e
  · cases e
theorem os_in (c : CxF X K) : OpS X K (compareOp .In) opIn := by
  refine ⟨rInC K false, fun i => c.kk i ▸ op_inC (c.un i), fun x y H μ s a b v m ra rb e Q q => ?_⟩
  unfold opIn at e
  cases e1 : inQ s a b with
  | none => rw [e1] at e; cases e
  | some r =>
    rw [e1] at e
    cases e
    obtain ⟨d, ds, h1, h2, h3, h4, h5, h6⟩ := inQ_dp m ra rb e1
    refine ⟨d, ds, h1, h2, h3, h4, h5, ?_⟩
    rw [← h6]
    exact q _ H μ (.refl m) m rep_of_bl
theorem os_notIn (c : CxF X K) : OpS X K (compareOp .NotIn) opNotIn := by
  refine ⟨rInC K true, fun i => c.kk i ▸ op_notInC (c.un i), fun x y H μ s a b v m ra rb e Q q => ?_⟩
  unfold opNotIn at e
  cases e1 : inQ s a b with
  | none => rw [e1] at e; cases e
  | some r =>
    rw [e1] at e
    cases e
    obtain ⟨d, ds, h1, h2, h3, h4, h5, h6⟩ := inQ_dp m ra rb e1
    refine ⟨d, ds, h1, h2, h3, h4, h5, ?_⟩
    rw [← h6]
    exact q _ H μ (.refl m) m rep_of_bl
/-! ### arithmetic -/
theorem os_add (c : CxF X K) : OpS X K (binaryOp .Add) opAdd := by
  refine ⟨_, fun i => OpR.or op_add (OpR.or op_add_str (show OpR (X i) _ (rCatF K) from c.kk i ▸ op_catF)), fun x y H μ s a b v m ra rb e Q q => ?_⟩
  unfold opAdd at e
  split at e
  · cases e
    exact .inl ⟨_, _, rep_int ra, rep_int rb, q _ H μ (.refl m) m rep_of_int⟩
  · rename_i i j
    split at e
    · rename_i hl
      cases e
      exact .inr (.inl ⟨_, _, rep_str ra, rep_str rb, hl, q _ H μ (.refl m) m (by unfold Rep; rfl)⟩)
    · cases e
  · rename_i i j
    split at e
    · rename_i hl
      cases e
      obtain ⟨p1, vs, e1, q1, l1, r1⟩ := rep_tup ra
      obtain ⟨p2, ws, e2, q2, l2, r2⟩ := rep_tup rb
      refine .inr (.inr ⟨p1, p2, vs, ws, e1, e2, q1.sqT, q2.sqT, by rw [r1.length, r2.length]; exact hl, fun ev => ?_, fun ew => ?_, fun p u hp tu => ?_⟩)
      · refine q _ H μ (.refl m) m ?_
        unfold Rep
        refine ⟨p2, ws, rfl, q2, l2, ?_⟩
        have : i = [] := by have := r1.length; rw [ev] at this; exact List.eq_nil_of_length_eq_zero this.symm
        rw [this]; exact r2
      · refine q _ H μ (.refl m) m ?_
        unfold Rep
        refine ⟨p1, vs, rfl, q1, l1, ?_⟩
        have : j = [] := by have := r2.length; rw [ew] at this; exact List.eq_nil_of_length_eq_zero this.symm
        rw [this, List.append_nil]; exact r1
      · have g : Grow μ H μ (upd H p u) := m.new hp
        refine q _ _ μ g (m.upd_new hp) ?_
        unfold Rep
        exact ⟨p, vs ++ ws, rfl, .of upd_same tu, by rw [List.length_append, r1.length, r2.length]; exact hl, RepAll.mono g m _ _ (r1.append r2)⟩
    · cases e
  · cases e
theorem os_sub : OpS X K (binaryOp .Sub) opSub := by
  refine ⟨_, fun _ => op_sub, fun x y H μ s a b v m ra rb e Q q => ?_⟩
  unfold opSub at e
  split at e
  · cases e
    exact ⟨_, _, rep_int ra, rep_int rb, q _ H μ (.refl m) m rep_of_int⟩
  · cases e
theorem os_mod : OpS X K (binaryOp .Mod) opMod := by
  refine ⟨_, fun _ => op_mod, fun x y H μ s a b v m ra rb e Q q => ?_⟩
  unfold opMod at e
  split at e
  · split at e
    · rename_i hj
      cases e
      exact ⟨_, _, rep_int ra, rep_int rb, hj, q _ H μ (.refl m) m rep_of_int⟩
    · cases e
  · cases e
theorem os_div : OpS X K (binaryOp .FloorDiv) opDiv := by
  refine ⟨_, fun _ => op_fdiv, fun x y H μ s a b v m ra rb e Q q => ?_⟩
  unfold opDiv at e
  split at e
  · split at e
    · rename_i hj
      cases e
      exact ⟨_, _, rep_int ra, rep_int rb, hj, q _ H μ (.refl m) m rep_of_int⟩
    · cases e
  · cases e
theorem os_pow : OpS X K (binaryOp .Pow) opPow := by
  refine ⟨_, fun _ => op_pow, fun x y H μ s a b v m ra rb e Q q => ?_⟩
  unfold opPow at e
  split at e
  · split at e
    · rename_i hj
      cases e
      exact ⟨_, _, rep_int ra, rep_int rb, hj, q _ H μ (.refl m) m rep_of_int⟩
    · cases e
  · cases e
theorem os_mul : OpS X K (binaryOp .Mult) opMul := by
  refine ⟨_, fun _ => op_mul, fun x y H μ s a b v m ra rb e Q q => ?_⟩
  unfold opMul at e
  split at e
  · split at e
    · rename_i i j hj
      cases e
      refine ⟨_, _, rep_int ra, rep_int rb, ?_, q _ H μ (.refl m) m rep_of_int⟩
      rcases hj with h | h
      · exact .inl (by omega)
      · exact .inr (by omega)
    · cases e
  · cases e
/-! ### subscripts -/
theorem ixN_eq (n : Nat) (i : Int) : FM.ixN n i = L2.ixN n i := rfl
theorem rep_at {H : Hp} {μ : Mu} {K : PySem.W.Frag} {xs : List Val} {vs : List V} {i : Int} {v : Val} (hr : RepAll K H μ xs vs) (e : ((FM.ixN xs.length i).bind fun j => xs[j]?) = some v) : ∃ x, atI vs i = some x ∧ Rep K H μ v x := by
  unfold atI
  rw [hr.length, ← ixN_eq]
  cases ej : FM.ixN xs.length i with
  | none => rw [ej] at e; cases e
  | some j =>
    rw [ej] at e
    obtain ⟨x, h1, h2⟩ := hr.get (i := j) e
    exact ⟨x, h1, h2⟩
theorem ix_lt {X : Cx} : IxR X (fun x y H Q => rIxL X.K x y H Q ∨ rIxT X.K x y H Q) := IxR.or ix_list ix_tup
theorem me_ix {EW : XK} {a b : Expr} {ma mb : Ex} {pos : Pos} (c : CxF X K) (ha : ME X K EW a ma) (hb : ME X K EW b mb) (hs : PlainIx b := by exact fun _ _ => rfl) : ME X K EW (.Subscript a b pos) (eOp opIx ma mb) := by
  obtain ⟨ta, pa, sa⟩ := ha.ex
  obtain ⟨tb, pb, sb⟩ := hb.ex
  refine ⟨⟨tOp (fun x y H Q => rIxL K x y H Q ∨ rIxT K x y H Q) ta tb, fun i => c.kk i ▸ pe_ix ix_lt (pa i) (pb i) hs, fun σ H ρ μ s Q hr m h => ?_⟩⟩
  refine sa σ H ρ μ s _ hr m (wp_mono (wp_bind h) (fun v s1 h1 => ?_) fun _ _ q => q)
  intro x H1 μ1 g1 m1 r1
  refine sb σ H1 ρ μ1 s1 _ (hr.mono g1 m) m1 (wp_mono (wp_bind h1) (fun u s2 h2 => ?_) fun _ _ q => q.mono g1)
  intro y H2 μ2 g2 m2 r2
  obtain ⟨w, e, q⟩ := wp_ofO h2
  have ra := Rep.mono g2 m1 v x r1
  unfold opIx at e
  split at e
  · rename_i xs i exs
    obtain ⟨p, vs, ep, hq, _, hrr⟩ := rep_asQ m2 ra exs
    obtain ⟨z, hz, rz⟩ := rep_at hrr e
    have qq := q z H2 μ2 (g1.trans g2) m2 rz
    rcases hq with hq | hq
    · exact .inl ⟨p, vs, i, z, ep, rep_int r2, hq, hz, qq⟩
    · exact .inr ⟨p, vs, i, z, ep, rep_int r2, hq, hz, qq⟩
  · cases e
/-! ### slices -/
theorem sIx_eq (n d : Nat) (o : Option Int) : FM.sIx n d o = HT.sIx n d o := rfl
theorem repCut {H : Hp} {μ : Mu} {K : PySem.W.Frag} {xs : List Val} {vs : List V} (lo hi : Option Int) (hr : RepAll K H μ xs vs) : RepAll K H μ (cutL xs lo hi) (cutV vs lo hi) := by
  unfold cutL cutV
  simp only [sIx_eq, hr.length]
  exact (hr.drop _).take _
theorem mo_none {EW : XK} : MO X K EW none oNone := ⟨⟨_, fun _ => po_none, fun σ H ρ μ s Q hr m h => h H μ (.refl m) m⟩⟩
theorem mo_some {EW : XK} {a : Expr} {ma : Ex} (ha : ME X K EW a ma) : MO X K EW (some a) (oSome ma) := by
  obtain ⟨ta, pa, sa⟩ := ha.ex
  refine ⟨⟨_, fun i => po_some (pa i), fun σ H ρ μ s Q hr m h => ?_⟩⟩
  refine sa σ H ρ μ s _ hr m (wp_mono (wp_bind h) (fun v s1 h1 => ?_) fun _ _ q => q)
  intro x H1 μ1 g1 m1 r1
  split at h1
  · exact ⟨_, rep_int r1, h1 H1 μ1 g1 m1⟩
  · exact h1.elim
theorem me_slT {EW : XK} {a : Expr} {lo hi : Option Expr} {ma : Ex} {ml mh : Ox} {p2 pos : Pos} (c : CxF X K) (ha : ME X K EW a ma) (hl : MO X K EW lo ml) (hh : MO X K EW hi mh) : ME X K EW (.Subscript a (.Slice lo hi none p2) pos) (eSlT ma ml mh) := by
  obtain ⟨ta, pa, sa⟩ := ha.ex
  obtain ⟨tl, pl, sl⟩ := hl.ex
  obtain ⟨th, ph, sh⟩ := hh.ex
  refine ⟨⟨tSl (rSlF K) ta tl th, fun i => c.kk i ▸ pe_slice sl_tupF (pa i) (pl i) (ph i), fun σ H ρ μ s Q hr m h => ?_⟩⟩
  refine sa σ H ρ μ s _ hr m (wp_mono (wp_bind h) (fun v s1 h1 => ?_) fun _ _ q => q)
  intro x H1 μ1 g1 m1 r1
  refine sl σ H1 ρ μ1 s1 _ (hr.mono g1 m) m1 (wp_mono (wp_bind h1) (fun l s2 h2 => ?_) fun _ _ q => q.mono g1)
  intro H2 μ2 g2 m2
  have g12 := g1.trans g2
  refine sh σ H2 ρ μ2 s2 _ (hr.mono g12 m) m2 (wp_mono (wp_bind h2) (fun k s3 h3 => ?_) fun _ _ q => q.mono g12)
  intro H3 μ3 g3 m3
  have g13 := g12.trans g3
  have ra := Rep.mono g3 m2 v x (Rep.mono g2 m1 v x r1)
  split at h3
  · obtain ⟨p, vs, ep, hq, hl, hrr⟩ := rep_tup ra
    refine ⟨p, vs, ep, hq.sqT, fun hw => ?_, fun q u hq' tu => ?_⟩
    · refine h3 _ H3 μ3 g13 m3 ?_
      unfold Rep
      refine ⟨p, vs, rfl, hq, hl, ?_⟩
      have := repCut l k hrr
      have ev : cutV vs l k = vs := by
        unfold cutV
        rw [hw.1, hw.2]; simp
      rw [ev] at this
      exact this
    · have g : Grow μ3 H3 μ3 (upd H3 q u) := m3.new hq'
      refine h3 _ _ μ3 (g13.trans g) (m3.upd_new hq') ?_
      unfold Rep
      exact ⟨q, _, rfl, .of upd_same tu, Nat.le_trans (cutV_length _ _ _) hl, RepAll.mono g m3 _ _ (repCut l k hrr)⟩
  · exact h3.elim
/-- what a new list needs to be handed on -/
theorem fs_new {H H1 : Hp} {μ μ1 : Mu} {s1 : S} {Q : VK} {xs : List Val} {vs : List V} (h : FsP K μ H Q xs s1) (g : Grow μ H μ1 H1) (m : Mem K H1 μ1 s1) (hl : vs.length ≤ sizeLine) (hr : RepAll K H1 μ1 xs vs) : ∀ p, H1 p = none → Q (.ref p) (upd H1 p (.lst vs)) := by
  intro p hp
  have g2 : Grow μ1 H1 (μ1.hide p) (upd H1 p (.lst vs)) := m.newHid hp
  have off := m.off hp
  refine h p vs _ μ1 (g.trans g2) ?_ (g.none hp) off.2 upd_same hl (RepAll.mono g2 m _ _ hr)
  refine ⟨m.shp, m.nd, fun f hf b hb hq => ?_, fun f n b c e1 e2 => ?_, m.bel, fun b hb => ?_, tabs_new m.tb hp⟩
  · rcases hq with e | e
    · exact off.1 f hf (by rw [← e]; exact hb)
    · exact m.sep f hf b hb e
  · have q := m.cel f n b c e1 e2
    cases c with
    | lst ys =>
      obtain ⟨ws, e, hl, hr⟩ := q
      exact ⟨ws, by rw [upd_ne (ne_of_none e hp)]; exact e, hl, RepAll.mono g2 m _ _ hr⟩
    | dct _ _ => exact q.elim
  · rcases hb with e | e
    · rw [e]; exact ⟨vs, upd_same⟩
    · obtain ⟨ws, e2⟩ := m.hd b e
      exact ⟨ws, by rw [upd_ne (ne_of_none e2 hp)]; exact e2⟩
theorem mf_sl {EW : XK} {a : Expr} {lo hi : Option Expr} {ma : Ex} {ml mh : Ox} {p2 pos : Pos} (c : CxF X K) (ha : ME X K EW a ma) (hl : MO X K EW lo ml) (hh : MO X K EW hi mh) : MF X K EW (.Subscript a (.Slice lo hi none p2) pos) (fSl ma ml mh) := by
  obtain ⟨ta, pa, sa⟩ := ha.ex
  obtain ⟨tl, pl, sl⟩ := hl.ex
  obtain ⟨th, ph, sh⟩ := hh.ex
  refine ⟨⟨tSl (rSlL K) ta tl th, fun i => c.kk i ▸ pe_slice sl_list (pa i) (pl i) (ph i), fun σ H ρ μ s Q hr m h => ?_⟩⟩
  refine sa σ H ρ μ s _ hr m (wp_mono (wp_bind h) (fun v s1 h1 => ?_) fun _ _ q => q)
  intro x H1 μ1 g1 m1 r1
  refine sl σ H1 ρ μ1 s1 _ (hr.mono g1 m) m1 (wp_mono (wp_bind h1) (fun l s2 h2 => ?_) fun _ _ q => q.mono g1)
  intro H2 μ2 g2 m2
  have g12 := g1.trans g2
  refine sh σ H2 ρ μ2 s2 _ (hr.mono g12 m) m2 (wp_mono (wp_bind h2) (fun k s3 h3 => ?_) fun _ _ q => q.mono g12)
  intro H3 μ3 g3 m3
  have g13 := g12.trans g3
  have ra := Rep.mono g3 m2 v x (Rep.mono g2 m1 v x r1)
  split at h3
  · rename_i xs exs
    obtain ⟨p, vs, ep, hq, hl, hrr⟩ := rep_asL m3 ra exs
    exact ⟨p, vs, ep, hq, fs_new h3 g13 m3 (Nat.le_trans (cutV_length _ _ _) hl) (repCut l k hrr)⟩
  · exact h3.elim
/-! ### builtins by values -/
def CallS {ι : Type} (X : ι → Cx) (K : PySem.W.Frag) (f : Value) (g : S → List Val → Option Val) : Prop :=
  ∃ r, (∀ i, CallR (X i) f r) ∧ ∀ xs H μ s as v, Mem K H μ s → RepAll K H μ as xs → g s as = some v → ∀ Q : VK, VP K μ H Q v s → r xs H Q
theorem me_callB {EW : XK} {e : Expr} {es : List Expr} {mas : Ax} {pos p : Pos} {x : Str} {id : String} {g : S → List Val → Option Val} (o : CallS X K (.builtin id) g) (hg : ∀ i, Gl (X i) x) (hm : ∀ i, (X i).mg x = none) (hv : bootBuiltins x = some (.builtin id)) (ha : MA X K EW (e :: es) mas)
    (hn : x ≠ "__name__" := by decide) (hd : (x == ("__debug__" : Str)) = false := by decide) (he : ∀ i, starEach (e :: es) (X i).env = (false, eval e (X i).env) :: starEach es (X i).env := by intro _; rfl) (hpl : ∀ i, (backTo pos (starEach es (X i).env)).any (·.1) = false := by intro _; rfl) : ME X K EW (.Call (.Name x p) (e :: es) [] pos) (eCall g mas) := by
  obtain ⟨ta, pa, sa⟩ := ha.ex
  obtain ⟨r, pr, sr⟩ := o
  refine ⟨⟨_, fun i => pe_callB (pr i) (hg i) (hm i) hv (pa i) (hn := hn) (hdb := hd) (he := he i) (hpl := hpl i), fun σ H ρ μ s Q hr m h => ?_⟩⟩
  refine sa σ H ρ μ s _ hr m (wp_mono (wp_bind h) (fun v s1 h1 => ?_) fun _ _ q => q)
  intro x H1 μ1 g1 m1 r1
  obtain ⟨w, e, q⟩ := wp_ofO h1
  exact sr x H1 μ1 s1 v w m1 r1 e Q (q.mono g1)
theorem me_callTy {EW : XK} {e : Expr} {es : List Expr} {mas : Ax} {pos p : Pos} {x : Str} {T : String} {g : S → List Val → Option Val} (o : CallS X K (.type T) g) (hg : ∀ i, Gl (X i) x) (hm : ∀ i, (X i).mg x = none) (hv : bootBuiltins x = some (.type T)) (ha : MA X K EW (e :: es) mas)
    (hn : x ≠ "__name__" := by decide) (hd : (x == ("__debug__" : Str)) = false := by decide) (he : ∀ i, starEach (e :: es) (X i).env = (false, eval e (X i).env) :: starEach es (X i).env := by intro _; rfl) (hpl : ∀ i, (backTo pos (starEach es (X i).env)).any (·.1) = false := by intro _; rfl) : ME X K EW (.Call (.Name x p) (e :: es) [] pos) (eCall g mas) := by
  obtain ⟨ta, pa, sa⟩ := ha.ex
  obtain ⟨r, pr, sr⟩ := o
  refine ⟨⟨_, fun i => pe_callTy (pr i) (hg i) (hm i) hv (pa i) (hn := hn) (hdb := hd) (he := he i) (hpl := hpl i), fun σ H ρ μ s Q hr m h => ?_⟩⟩
  refine sa σ H ρ μ s _ hr m (wp_mono (wp_bind h) (fun v s1 h1 => ?_) fun _ _ q => q)
  intro x H1 μ1 g1 m1 r1
  obtain ⟨w, e, q⟩ := wp_ofO h1
  exact sr x H1 μ1 s1 v w m1 r1 e Q (q.mono g1)
end
end FM

set_option autoImplicit false
/-! builtins and methods by values -/
namespace FM
open PySem PySem.Spec PyProof.Rows L2
variable [Tbl]
section
variable {ι : Type} {X : ι → Cx} {K : PySem.W.Frag} {EW : XK} {a b e : Expr} {es : List Expr} {ma mb : Ex} {mas : Ax} {mf : Fx} {pos p apos cpos : Pos}
theorem all1 {K : PySem.W.Frag} {H : Hp} {μ : Mu} {v : Val} {xs : List V} (h : RepAll K H μ [v] xs) : ∃ x, xs = [x] ∧ Rep K H μ v x := by
  unfold RepAll at h
  obtain ⟨w, ws, e, h1, h2⟩ := h
  unfold RepAll at h2
  exact ⟨w, by rw [e, h2], h1⟩
theorem all2 {K : PySem.W.Frag} {H : Hp} {μ : Mu} {v u : Val} {xs : List V} (h : RepAll K H μ [v, u] xs) : ∃ x y, xs = [x, y] ∧ Rep K H μ v x ∧ Rep K H μ u y := by
  unfold RepAll at h
  obtain ⟨w, ws, e, h1, h2⟩ := h
  obtain ⟨y, e2, h3⟩ := all1 h2
  exact ⟨w, y, by rw [e, e2], h1, h3⟩
theorem LenV_of {K : PySem.W.Frag} {H : Hp} {q : Addr} {vs : List V} (h : SqL K H q vs ∨ SqT K H q vs) : LenV K (.ref q) H vs.length := by
  rcases h with h | h
  · exact .inl ⟨vs, h, rfl⟩
  · exact .inr ⟨vs, h, rfl⟩
theorem cs_len (c : CxF X K) : CallS X K (.builtin "len") bLen := by
  refine ⟨fun xs H Q => ∃ x n, xs = [x] ∧ LenV K x H n ∧ Q (.int n) H, fun i => c.kk i ▸ call_len, fun xs H μ s as v m r e Q q => ?_⟩
  unfold bLen at e
  split at e
  · split at e
    · rename_i z hl
      cases e
      obtain ⟨x, ex, rx⟩ := all1 r
      refine ⟨x, _, ex, ?_, q _ H μ (.refl m) m rep_of_int⟩
      rw [rep_str rx]
      exact ⟨hl, rfl⟩
    · cases e
  · rename_i x _
    obtain ⟨y, ey, ry⟩ := all1 r
    cases ex : asQ s x with
    | none => rw [ex] at e; cases e
    | some ys =>
      rw [ex] at e
      cases e
      obtain ⟨q1, vs, eq, hq, hl, hr⟩ := rep_asQ m ry ex
      refine ⟨y, vs.length, ey, ?_, ?_⟩
      · rw [eq]; exact LenV_of hq
      · rw [hr.length]; exact q _ H μ (.refl m) m rep_of_int
  · cases e
theorem cs_abs : CallS X K (.builtin "abs") bAbs := by
  refine ⟨_, fun _ => call_abs, fun xs H μ s as v m r e Q q => ?_⟩
  unfold bAbs at e
  split at e
  · cases e
    obtain ⟨x, ex, rx⟩ := all1 r
    exact ⟨_, by rw [ex, rep_int rx], q _ H μ (.refl m) m rep_of_int⟩
  · cases e
theorem cs_int : CallS X K (.type "int") bInt := by
  refine ⟨_, fun _ => call_int1, fun xs H μ s as v m r e Q q => ?_⟩
  unfold bInt at e
  split at e
  · cases e
    obtain ⟨x, ex, rx⟩ := all1 r
    exact .inl ⟨_, by rw [ex, rep_int rx], q _ H μ (.refl m) m rep_of_int⟩
  · cases e
    obtain ⟨x, ex, rx⟩ := all1 r
    exact .inr ⟨_, by rw [ex, rep_bl rx], q _ H μ (.refl m) m rep_of_int⟩
  · cases e
theorem cs_tuple (c : CxF X K) : CallS X K (.type "tuple") bTuple := by
  refine ⟨rTupOf K, fun i => c.kk i ▸ call_tupF, fun xs H μ s as v m r e Q q => ?_⟩
  unfold bTuple at e
  split at e
  · rename_i x
    obtain ⟨y, ey, ry⟩ := all1 r
    cases x with
    | tup ys =>
      cases e
      obtain ⟨q1, vs, eq, hq, hl, hr⟩ := rep_tup ry
      refine ⟨q1, vs, by rw [ey, eq], .inr ⟨hq.sqT, q _ H μ (.refl m) m ?_⟩⟩
      unfold Rep
      exact ⟨q1, vs, rfl, hq, hl, hr⟩
    | _ =>
      simp only [asQ] at e
      cases ex : asL s _ with
      | none => rw [ex] at e; cases e
      | some ys =>
        rw [ex] at e
        cases e
        obtain ⟨q1, vs, eq, hq, hl, hr⟩ := rep_asL m ry ex
        refine ⟨q1, vs, by rw [ey, eq], .inl ⟨hq, fun l u hl' tu => ?_⟩⟩
        have g : Grow μ H μ (upd H l u) := m.new hl'
        refine q _ _ μ g (m.upd_new hl') ?_
        unfold Rep
        exact ⟨l, vs, rfl, .of upd_same tu, hl, RepAll.mono g m _ _ hr⟩
  · cases e
theorem cs_sum (c : CxF X K) : CallS X K (.builtin "sum") bSum := by
  refine ⟨rSum K, fun i => c.kk i ▸ cr_sum (c.calm i), fun xs H μ s as v m r e Q q => ?_⟩
  unfold bSum at e
  split at e
  · rename_i x
    obtain ⟨y, ey, ry⟩ := all1 r
    cases ex : asL s x with
    | none => rw [ex] at e; cases e
    | some ys =>
      rw [ex] at e
      cases en : intsOf ys with
      | none => simp only [Option.bind_some, en] at e; cases e
      | some ns =>
        simp only [Option.bind_some, en] at e
        cases e
        obtain ⟨q1, vs, eq, hq, hl, hr⟩ := rep_asL m ry ex
        obtain ⟨ev, _⟩ := intsOf_rep hr en
        exact ⟨q1, ns, by rw [ey, eq], by rw [← ev]; exact hq, q _ H μ (.refl m) m rep_of_int⟩
  · cases e
theorem foldl_max : ∀ (ns : List Int) (k : Int), (k ≤ ns.foldl max k) ∧ (∀ y ∈ ns, y ≤ ns.foldl max k) ∧ (ns.foldl max k = k ∨ ns.foldl max k ∈ ns)
  | [], k => ⟨Int.le_refl _, by simp, .inl rfl⟩
  | n :: ns, k => by
    obtain ⟨h1, h2, h3⟩ := foldl_max ns (max k n)
    simp only [List.foldl_cons]
    refine ⟨by omega, fun y hy => ?_, ?_⟩
    · rcases List.mem_cons.mp hy with rfl | hy
      · omega
      · exact h2 y hy
    · rcases h3 with h | h
      · rw [h]
        by_cases hk : k ≤ n
        · right; rw [Int.max_eq_right hk]; exact List.mem_cons_self
        · left; rw [Int.max_eq_left (by omega)]
      · right; exact List.mem_cons_of_mem _ h
theorem cs_max (c : CxF X K) : CallS X K (.builtin "max") bMax := by
  refine ⟨rMax K, fun i => c.kk i ▸ cr_max (c.calm i), fun xs H μ s as v m r e Q q => ?_⟩
  unfold bMax at e
  split at e
  · rename_i x
    obtain ⟨y, ey, ry⟩ := all1 r
    cases ex : asL s x with
    | none => rw [ex] at e; cases e
    | some ys =>
      rw [ex] at e
      cases en : intsOf ys with
      | none => simp only [Option.bind_some, en] at e; cases e
      | some ns =>
        simp only [Option.bind_some, en] at e
        cases ns with
        | nil => cases e
        | cons n ns =>
          cases e
          obtain ⟨q1, vs, eq, hq, hl, hr⟩ := rep_asL m ry ex
          obtain ⟨ev, _⟩ := intsOf_rep hr en
          refine ⟨q1, n :: ns, by rw [ey, eq], by rw [← ev]; exact hq, by simp, fun k hk hle => ?_⟩
          obtain ⟨h1, h2, h3⟩ := foldl_max ns n
          have ek : k = ns.foldl max n := by
            have a1 : ns.foldl max n ≤ k := by
              rcases h3 with h | h
              · rw [h]; exact hle n List.mem_cons_self
              · exact hle _ (List.mem_cons_of_mem _ h)
            have a2 : k ≤ ns.foldl max n := by
              rcases List.mem_cons.mp hk with h | h
              · rw [h]; exact h1
              · exact h2 k h
            omega
          rw [ek]
          exact q _ H μ (.refl m) m rep_of_int
  · cases e
theorem cs_all (c : CxF X K) : CallS X K (.builtin "all") bAll := by
  refine ⟨rAll K, fun i => c.kk i ▸ cr_all (c.calm i), fun xs H μ s as v m r e Q q => ?_⟩
  unfold bAll at e
  split at e
  · rename_i x
    obtain ⟨y, ey, ry⟩ := all1 r
    cases ex : asL s x with
    | none => rw [ex] at e; cases e
    | some ys =>
      rw [ex] at e
      cases en : boolsOf ys with
      | none => simp only [Option.bind_some, en] at e; cases e
      | some ns =>
        simp only [Option.bind_some, en] at e
        cases e
        obtain ⟨q1, vs, eq, hq, hl, hr⟩ := rep_asL m ry ex
        exact ⟨q1, ns, by rw [ey, eq], by rw [← boolsOf_rep hr en]; exact hq, q _ H μ (.refl m) m rep_of_bl⟩
  · cases e
theorem cs_any (c : CxF X K) : CallS X K (.builtin "any") bAny := by
  refine ⟨rAny K, fun i => c.kk i ▸ cr_any (c.calm i), fun xs H μ s as v m r e Q q => ?_⟩
  unfold bAny at e
  split at e
  · rename_i x
    obtain ⟨y, ey, ry⟩ := all1 r
    cases ex : asL s x with
    | none => rw [ex] at e; cases e
    | some ys =>
      rw [ex] at e
      cases en : boolsOf ys with
      | none => simp only [Option.bind_some, en] at e; cases e
      | some ns =>
        simp only [Option.bind_some, en] at e
        cases e
        obtain ⟨q1, vs, eq, hq, hl, hr⟩ := rep_asL m ry ex
        exact ⟨q1, ns, by rw [ey, eq], by rw [← boolsOf_rep hr en]; exact hq, q _ H μ (.refl m) m rep_of_bl⟩
  · cases e
/-! ### repr -/
def rReprC (K : PySem.W.Frag) : List V → Hp → VK → Prop := fun xs H Q => ∃ x d, xs = [x] ∧ Dp K H x d ∧ d.hasDict = false ∧ d.showable = true ∧ d.shown.length ≤ sizeLine ∧ d.depth ≤ 64 ∧ Q (.str d.shown) H
theorem canLay_noDict : ∀ d : PyData, d.canLay0 = true → d.hasDict = false := by
  intro d
  refine PyData.rec (motive_1 := fun d => d.canLay0 = true → d.hasDict = false) (motive_2 := fun ds => PyData.canLayAll0 ds = true → PyData.hasDictAll ds = false) (motive_3 := fun _ => True) (motive_4 := fun _ => True) ?_ ?_ ?_ ?_ ?_ ?_ ?_ ?_ ?_ ?_ ?_ ?_ d <;> intros <;> simp_all [PyData.canLay0, PyData.canLayAll0, PyData.hasDict, PyData.hasDictAll]
end
end FM

set_option autoImplicit false
/-! defs: the promise of a mirror, a call, a body -/
namespace FM
open PySem PySem.Spec PyProof.Rows L2
variable [Tbl]

/-- a def keeps a promise wherever there is room and no repr is under way -/
structure FnG (P : Program) (w : World) (K : PySem.W.Frag) (mg : PySem.Str → Option Value) (base : Heap) (CX : CXT) (k : Nat) (f : Addr) (fd : FuncData) (ps : List PySem.Str) (sp : Sp) : Prop where
  len : ∀ vs H Q E, sp vs H Q E → vs.length = ps.length
  go : ∀ (A : Around) (out : List PySem.Env) (t : Shared) (H : Hp) (args : Args) (us : List Value) (vs : List V) (Q : VK) (E : XK),
    Room k A → A.guards = some [] → Env0 P w K mg base A out t H → BindsTo t fd args (ps.zip us) → Vals vs us → sp vs H Q E →
    codeAny (model P w) A (.call (.ref f) args) (CR CX out P w H t Q E) t
section
variable {P : Program} {w : World} {K : PySem.W.Frag} {mg : PySem.Str → Option Value} {base : Heap} {CX : CXT} {k : Nat} {f : Addr} {fd : FuncData} {ps : List PySem.Str} {sp : Sp}
theorem FnG.up {j : Nat} (F : FnG P w K mg base CX j f fd ps sp) (h : j ≤ k) : FnG P w K mg base CX k f fd ps sp :=
  ⟨F.len, fun A out t H args us vs Q E r g => F.go A out t H args us vs Q E (r.mono h) g⟩
end

/-- what a mirror promises -/
def RtP (K : PySem.W.Frag) (μ : Mu) (H : Hp) (Q : VK) : Ret → S → Prop := fun r s' => match r with
  | .val v => ∀ x H', Grow μ H μ H' → Mem K H' μ s' → Rep K H' μ v x → Q x H'
  | .cell (.lst xs) => ∀ (a : Addr) (vs : List V) (H' : Hp), Grow μ H (μ.hide a) H' → Mem K H' (μ.hide a) s' → H a = none → ¬ μ.hid a → H' a = some (.lst vs) → vs.length ≤ sizeLine → RepAll K H' (μ.hide a) xs vs → Q (.ref a) H'
  | .cell _ => False
def spOf (K : PySem.W.Frag) (np : Nat) (m : Fn) : Sp := fun vs H Q E => vs.length = np ∧ ∃ μ s args, Mem K H μ s ∧ RepAll K H μ args vs ∧ (m args s).wp (RtP K μ H Q) (XP K μ H E)

section
variable {X : Cx} {CX : CXT} {k : Nat} {f : Addr} {fd : FuncData} {ps : List PySem.Str} {sp : Sp} {E : XK} {x : PySem.Str} {p pos : Pos} {e : Expr} {es : List Expr} {t : TA}
theorem g_run {pins : List (Addr × Obj)} {σ : L2.St} {H : Hp} {s : Shared} {Q : VK} {us : List Value} {vs : List V} (F : FnG X.prog X.w X.K X.mg X.base CX k f fd ps sp) (hr : Room k X.A) (hgd : X.A.guards = some []) (hb : Binds X.K fd ps []) (hx : Passes CX X E)
    (I : Inv X pins σ H s) (r : Vals vs us) (h : sp vs H Q E) : wpAny (model X.prog X.w) X.A (call (.ref f) us) (EP X pins σ Q) X.xe s := by
  have hl : (us ++ []).length = ps.length := by rw [List.append_nil, ← r.length]; exact F.len _ _ _ _ h
  have hbind := hb s us I.kIn hl
  rw [List.append_nil] at hbind
  refine wpAny_call (codeAny_mono (F.go X.A X.stack s H ⟨us, []⟩ us vs Q E hr hgd I.env0 hbind r h) ?_)
  intro res s' hq
  match res, hq with
  | .error e, hq => exact hx pins σ H s e s' I hq
  | .ok (.ret u), hq => exact I.after hq
  | .ok .next, hq => exact hq.elim
  | .ok .brk, hq => exact hq.elim
  | .ok .cont, hq => exact hq.elim
theorem pe_callM (F : FnG X.prog X.w X.K X.mg X.base CX k f fd ps sp) (hr : Room k X.A) (hgd : X.A.guards = some []) (hg : Gl X x) (hm : X.mg x = some (.ref f)) (hk : PySem.W.keepIn X.K (.ref f) = true) (hb : Binds X.K fd ps []) (hx : Passes CX X E)
    (ha : PA X (e :: es) t) (hdb : (x == ("__debug__" : PySem.Str)) = false) (he : starEach (e :: es) X.env = (false, eval e X.env) :: starEach es X.env) (hpl : (backTo pos (starEach es X.env)).any (·.1) = false) :
    PE X (.Call (.Name x p) (e :: es) [] pos) (tCall sp [] E t) := by
  constructor
  intro pins s σ H Q I h
  refine wpAny_Call_Name_kw (ld_glob I hg hm ?_ hdb)
  refine PySem.W.callWith_K (h₀ := X.base) I.ok.mod.kin hk (thn (ha.run pos pins s σ H _ I h) ?_) he hpl
  intro us s1 hq
  obtain ⟨vs, H1, I1, r, q⟩ := hq
  refine ⟨I1.kIn, g_run F hr hgd hb hx I1 r ?_⟩
  have q : sp (vs ++ []) H1 Q E := q
  rw [List.append_nil] at q
  exact q
end

/-- the facts of a context -/
structure CxG {ι : Type} (X : ι → Cx) (K : PySem.W.Frag) (k : Nat) : Prop extends CxF X K where
  gd : ∀ i, (X i).A.guards = some []
  rm : ∀ i, Room k (X i).A

section
variable {ι : Type} {X : ι → Cx} {K : PySem.W.Frag} {EW : XK} {CX : CXT} {k : Nat} {f : Addr} {fd : FuncData} {ps : List PySem.Str} {x : PySem.Str} {p pos : Pos} {e : Expr} {es : List Expr} {np : Nat} {fn : Fn} {mas : Ax}
theorem rt_val {μ : Mu} {H H1 : Hp} {μ1 : Mu} {Q : VK} {v : Val} {s' : S} (g : Grow μ H μ1 H1) (h : VP K μ H Q v s') : RtP K μ1 H1 Q (.val v) s' :=
  fun x H' g' m r => h x H' μ1 (g.trans g') m r
/-- f(..), whose new list is dead at once -/
theorem me_fn (F : ∀ i, FnG (X i).prog (X i).w (X i).K (X i).mg (X i).base CX k f fd ps (spOf K np fn)) (c : CxG X K k) (hg : ∀ i, Gl (X i) x) (hm : ∀ i, (X i).mg x = some (.ref f)) (hk : ∀ i, PySem.W.keepIn (X i).K (.ref f) = true) (hb : ∀ i, Binds (X i).K fd ps []) (hx : ∀ i, Passes CX (X i) EW)
    (ha : MA X K EW (e :: es) mas) (hn : (e :: es).length = np := by rfl) (hdb : (x == ("__debug__" : PySem.Str)) = false := by decide) (he : ∀ i, starEach (e :: es) (X i).env = (false, eval e (X i).env) :: starEach es (X i).env := by intro _; rfl) (hpl : ∀ i, (backTo pos (starEach es (X i).env)).any (·.1) = false := by intro _; rfl) :
    ME X K EW (.Call (.Name x p) (e :: es) [] pos) (eFn fn mas) := by
  obtain ⟨ta, pa, sa⟩ := ha.ex
  refine ⟨⟨_, fun i => pe_callM (F i) (c.rm i) (c.gd i) (hg i) (hm i) (hk i) (hb i) (hx i) (pa i) hdb (he i) (hpl i), fun σ H ρ μ s Q hr m h => ?_⟩⟩
  refine sa σ H ρ μ s _ hr m (wp_mono (wp_len (wp_bind h)) (fun vs s1 h1 => ?_) fun _ _ q => q)
  obtain ⟨el, h1⟩ := h1
  intro xs H1 μ1 g1 m1 r1
  rw [List.append_nil]
  refine ⟨by rw [r1.length, ha.len _ _ _ _ el]; exact hn, μ1, s1, vs, m1, r1, wp_mono (wp_bind h1) (fun r s2 h2 => ?_) fun _ _ q => q.mono g1⟩
  match r, h2 with
  | .val v, h2 => exact rt_val g1 h2
  | .cell (.lst ys), h2 =>
    intro a vs H' g' m' ha hh e hl rr
    have off : Off μ1 a := m'.offHid hh
    refine h2 (.ref a) H' μ1 ((g1.trans (g'.unhide (m1.off ha)))) m'.unhide ?_
    unfold Rep
    exact ⟨a, vs, rfl, e, off, hl, rr.unhide⟩
  | .cell (.dct ks vs), h2 => exact False.elim h2
/-- f(..), whose new list lives on -/
theorem me_fnL (F : ∀ i, FnG (X i).prog (X i).w (X i).K (X i).mg (X i).base CX k f fd ps (spOf K np fn)) (c : CxG X K k) (hg : ∀ i, Gl (X i) x) (hm : ∀ i, (X i).mg x = some (.ref f)) (hk : ∀ i, PySem.W.keepIn (X i).K (.ref f) = true) (hb : ∀ i, Binds (X i).K fd ps []) (hx : ∀ i, Passes CX (X i) EW)
    (ha : MA X K EW (e :: es) mas) (hn : (e :: es).length = np := by rfl) (hdb : (x == ("__debug__" : PySem.Str)) = false := by decide) (he : ∀ i, starEach (e :: es) (X i).env = (false, eval e (X i).env) :: starEach es (X i).env := by intro _; rfl) (hpl : ∀ i, (backTo pos (starEach es (X i).env)).any (·.1) = false := by intro _; rfl) :
    ME X K EW (.Call (.Name x p) (e :: es) [] pos) (eFnL fn mas) := by
  obtain ⟨ta, pa, sa⟩ := ha.ex
  refine ⟨⟨_, fun i => pe_callM (F i) (c.rm i) (c.gd i) (hg i) (hm i) (hk i) (hb i) (hx i) (pa i) hdb (he i) (hpl i), fun σ H ρ μ s Q hr m h => ?_⟩⟩
  refine sa σ H ρ μ s _ hr m (wp_mono (wp_len (wp_bind h)) (fun vs s1 h1 => ?_) fun _ _ q => q)
  obtain ⟨el, h1⟩ := h1
  intro xs H1 μ1 g1 m1 r1
  rw [List.append_nil]
  refine ⟨by rw [r1.length, ha.len _ _ _ _ el]; exact hn, μ1, s1, vs, m1, r1, wp_mono (wp_bind h1) (fun r s2 h2 => ?_) fun _ _ q => q.mono g1⟩
  match r, h2 with
  | .val v, h2 => exact rt_val g1 h2
  | .cell (.lst ys), h2 =>
    intro a vs H' g' m' ha hh e hl rr
    cases s2 with
    | nil => exact False.elim h2
    | cons fr s2 =>
      have bl : belowAll (s2.length + 1) ys = true := by
        have q := repAll_below ys vs rr
        rw [m'.len] at q
        exact q
      obtain ⟨m2, r2⟩ := m'.comes e hl rr bl hh
      exact h2 (.ref a) H' (μ1.ext a) (g1.trans (g'.comes ha (m1.off ha))) m2 r2
  | .cell (.dct ks vs), h2 => exact False.elim h2
end
end FM

set_option autoImplicit false
/-! statements, targets, loops, comprehensions -/
namespace FM
open PySem PySem.Spec PyProof.Rows L2
variable [Tbl]

def F.wp (r : F) (n : FM.Env → S → Prop) (t : Val → S → Prop) (b c : FM.Env → S → Prop) (E : Exn → S → Prop) : Prop := match r with
  | .nx ρ s => n ρ s
  | .rt v s => t v s
  | .bk ρ s => b ρ s
  | .ct ρ s => c ρ s
  | .ex e s => E e s
  | .no => False
theorem wp_seq {α : Type} {r : R α} {f : α → S → F} {n : FM.Env → S → Prop} {t : Val → S → Prop} {b c : FM.Env → S → Prop} {E : Exn → S → Prop} (h : (r.seq f).wp n t b c E) : r.wp (fun a s => (f a s).wp n t b c E) E := by
  cases r <;> exact h
theorem fwp_mono {r : F} {n n' : FM.Env → S → Prop} {t t' : Val → S → Prop} {b b' c c' : FM.Env → S → Prop} {E E' : Exn → S → Prop} (h : r.wp n t b c E) (h1 : ∀ ρ s, n ρ s → n' ρ s) (h2 : ∀ v s, t v s → t' v s) (h3 : ∀ ρ s, b ρ s → b' ρ s) (h4 : ∀ ρ s, c ρ s → c' ρ s) (h5 : ∀ e s, E e s → E' e s) : r.wp n' t' b' c' E' := by
  cases r with
  | nx ρ s => exact h1 ρ s h
  | rt v s => exact h2 v s h
  | bk ρ s => exact h3 ρ s h
  | ct ρ s => exact h4 ρ s h
  | ex e s => exact h5 e s h
  | no => exact h
/-- slots and memory behind a statement -/
def NP (K : PySem.W.Frag) (μ : Mu) (H : Hp) (Q : L2.St → Hp → Prop) : FM.Env → S → Prop := fun ρ s' =>
  ∀ σ H' μ', Grow μ H μ' H' → Mem K H' μ' s' → SR K H' μ' ρ σ → Q σ H'
theorem NP.mono {K : PySem.W.Frag} {μ μ1 : Mu} {H H1 : Hp} {Q : L2.St → Hp → Prop} {ρ : FM.Env} {s' : S} (g : Grow μ H μ1 H1) (h : NP K μ H Q ρ s') : NP K μ1 H1 Q ρ s' := fun σ H' μ' g' m r => h σ H' μ' (g.trans g') m r
def SW (K : PySem.W.Frag) (μ : Mu) (H : Hp) (D : Ends) (EW : XK) (r : F) : Prop :=
  r.wp (NP K μ H D.nx) (VP K μ H D.rt) (NP K μ H D.bk) (NP K μ H D.ct) (XP K μ H EW)
theorem SW.mono {K : PySem.W.Frag} {μ μ1 : Mu} {H H1 : Hp} {D : Ends} {EW : XK} {r : F} (g : Grow μ H μ1 H1) (h : SW K μ H D EW r) : SW K μ1 H1 D EW r :=
  fwp_mono h (fun _ _ q => q.mono g) (fun _ _ q => q.mono g) (fun _ _ q => q.mono g) (fun _ _ q => q.mono g) fun _ _ q => q.mono g
structure MS {ι : Type} (X : ι → Cx) (K : PySem.W.Frag) (EW : XK) (st : Stmt) (m : Sx) : Prop where
  ex : ∃ t, (∀ i, PS (X i) st t) ∧ ∀ σ H ρ μ s D, SR K H μ ρ σ → Mem K H μ s → SW K μ H D EW (m ρ s) → t D σ H
structure MSs {ι : Type} (X : ι → Cx) (K : PySem.W.Frag) (EW : XK) (st : List Stmt) (m : Sx) : Prop where
  ex : ∃ t, (∀ i, PSs (X i) st t) ∧ ∀ σ H ρ μ s D, SR K H μ ρ σ → Mem K H μ s → SW K μ H D EW (m ρ s) → t D σ H
/-- the slots agree but at some places -/
def Agr (ks : List Nat) (σ σ' : L2.St) : Prop := σ'.length = σ.length ∧ ∀ j : Nat, j ∉ ks → σ'[j]? = σ[j]?
/-- a value, or a pair that a walk hands out (whose object is not told) -/
def RB (K : PySem.W.Frag) (H : Hp) (μ : Mu) (w : Bool) (v : Val) (x : V) : Prop := match w with
  | false => Rep K H μ v x
  | true => ∃ ys a vs, v = .tup ys ∧ x = .ref a ∧ SqT K H a vs ∧ RepAll K H μ ys vs
structure MG {ι : Type} (X : ι → Cx) (K : PySem.W.Frag) (tg : Expr) (m : Gx) (ks : List Nat) (w : Bool) : Prop where
  ex : ∃ t, (∀ i, PG (X i) tg t) ∧ ∀ σ H ρ μ s x v ρ' Q, SR K H μ ρ σ → Mem K H μ s → RB K H μ w v x → m v ρ = some ρ' → (∀ σ', SR K H μ ρ' σ' → Agr ks σ σ' → Q σ' H) → t x σ H Q
structure MGs {ι : Type} (X : ι → Cx) (K : PySem.W.Frag) (tgs : List Expr) (m : List Gx) (ks : List Nat) : Prop where
  ex : ∃ t, (∀ i, PGs (X i) tgs t) ∧ ∀ σ H ρ μ s xs vs ρ' Q, SR K H μ ρ σ → Mem K H μ s → RepAll K H μ vs xs → gAll m vs ρ = some ρ' → (∀ σ', SR K H μ ρ' σ' → Agr ks σ σ' → Q σ' H) → t xs σ H Q
section
variable {ι : Type} {X : ι → Cx} {K : PySem.W.Frag} {EW : XK} {st : Stmt} {rest : List Stmt} {a b e o i c : Expr} {es : List Expr} {ma mb me mo mi : Ex} {mt : Tx} {ms mr : Sx} {mg : Gx} {mgs : List Gx} {ks ls : List Nat} {w : Bool} {pos : Pos}
theorem ms_nil : MSs X K EW [] sNil := ⟨⟨_, fun _ => pss_nil, fun σ H ρ μ s D hr m h => h σ H μ (.refl m) m hr⟩⟩
theorem ms_cons (h1 : MS X K EW st ms) (h2 : MSs X K EW rest mr) : MSs X K EW (st :: rest) (sCons ms mr) := by
  obtain ⟨ta, pa, sa⟩ := h1.ex
  obtain ⟨tb, pb, sb⟩ := h2.ex
  refine ⟨⟨_, fun i => pss_cons (pa i) (pb i), fun σ H ρ μ s D hr m h => ?_⟩⟩
  refine sa σ H ρ μ s { D with nx := tb D } hr m ?_
  have h : SW K μ H D EW ((ms ρ s).then mr) := h
  unfold SW at h ⊢
  cases e : ms ρ s with
  | nx ρ1 s1 =>
    rw [e] at h
    intro σ' H' μ' g m' r'
    exact sb σ' H' ρ1 μ' s1 D r' m' (SW.mono g h)
  | rt v s1 => rw [e] at h; exact h
  | bk ρ1 s1 => rw [e] at h; exact h
  | ct ρ1 s1 => rw [e] at h; exact h
  | ex e1 s1 => rw [e] at h; exact h
  | no => rw [e] at h; exact h
theorem ms_pass : MS X K EW (.Pass pos) sPass := ⟨⟨_, fun _ => ps_pass, fun σ H ρ μ s D hr m h => h σ H μ (.refl m) m hr⟩⟩
theorem ms_brk : MS X K EW (.Break pos) sBrk := ⟨⟨_, fun _ => ps_break, fun σ H ρ μ s D hr m h => h σ H μ (.refl m) m hr⟩⟩
theorem ms_cnt : MS X K EW (.Continue pos) sCnt := ⟨⟨_, fun _ => ps_continue, fun σ H ρ μ s D hr m h => h σ H μ (.refl m) m hr⟩⟩
theorem ms_expr (he : ME X K EW e me) (hs : ∀ i, swapsWith e none pos.line (X i).env = Pure.pure false := by intro _; rfl) : MS X K EW (.Expr e pos) (sExpr me) := by
  obtain ⟨ta, pa, sa⟩ := he.ex
  refine ⟨⟨_, fun i => ps_expr (pa i) (hs i), fun σ H ρ μ s D hr m h => ?_⟩⟩
  refine sa σ H ρ μ s _ hr m (wp_mono (wp_seq h) (fun v s1 h1 => ?_) fun _ _ q => q)
  intro x H1 μ1 g1 m1 r1
  exact h1 σ H1 μ1 g1 m1 (hr.mono g1 m)
theorem ms_ret (he : ME X K EW e me) : MS X K EW (.Return (some e) pos) (sRet me) := by
  obtain ⟨ta, pa, sa⟩ := he.ex
  refine ⟨⟨_, fun i => ps_ret (pa i), fun σ H ρ μ s D hr m h => ?_⟩⟩
  exact sa σ H ρ μ s _ hr m (wp_mono (wp_seq h) (fun v s1 h1 => h1) fun _ _ q => q)
theorem ms_if {sa sb : List Stmt} {m1 m2 : Sx} (hc : MT X K EW c mt) (h1 : MSs X K EW sa m1) (h2 : MSs X K EW sb m2) : MS X K EW (.If c sa sb pos) (sIf mt m1 m2) := by
  obtain ⟨tc, pc, sc⟩ := hc.ex
  obtain ⟨ta, pa, s1⟩ := h1.ex
  obtain ⟨tb, pb, s2⟩ := h2.ex
  refine ⟨⟨_, fun i => ps_if (pc i) (pa i) (pb i), fun σ H ρ μ s D hr m h => ?_⟩⟩
  refine sc σ H ρ μ s _ hr m (wp_mono (wp_seq h) (fun v s1' h1 => ?_) fun _ _ q => q)
  intro H1 μ1 g1 m1
  cases v with
  | true =>
    rw [if_pos rfl] at h1 ⊢
    exact s1 σ H1 ρ μ1 s1' D (hr.mono g1 m) m1 (SW.mono g1 h1)
  | false =>
    rw [if_neg Bool.false_ne_true] at h1 ⊢
    exact s2 σ H1 ρ μ1 s1' D (hr.mono g1 m) m1 (SW.mono g1 h1)
/-- targets -/
theorem mg_name {k : Nat} {x : PySem.Str} (hN : ∀ i, (X i).N.Nodup) (hi : ∀ i, (X i).N[k]? = some x) (hx : ∀ i, Loc (X i).env.scope x) (hf : ∀ i, (X i).fn x = true ∨ (X i).env.scope.names.lookup x = some .local := by first | exact fun _ => .inl rfl | exact fun _ => .inr rfl) : MG X K (.Name x pos) (FM.gName k) [k] false := by
  refine ⟨⟨_, fun i => pg_name (hN i) (hi i) (hx i) (hf i), fun σ H ρ μ s x v ρ' Q hr m r e q => ?_⟩⟩
  cases e
  exact q _ (hr.set k r) ⟨by simp, fun j hj => List.getElem?_set_ne (fun e => hj (by simp [e]))⟩
theorem mg_nil : MGs X K [] [] [] := by
  refine ⟨⟨_, fun _ => pgs_nil, fun σ H ρ μ s xs vs ρ' Q hr m r e q => ?_⟩⟩
  cases vs with
  | nil =>
    cases e
    unfold RepAll at r
    exact ⟨r, q σ hr ⟨rfl, fun _ _ => rfl⟩⟩
  | cons v vs => cases e
theorem mg_cons (h1 : MG X K e mg ks false) (h2 : MGs X K es mgs ls) (hs : ∀ i, (assignEach (e :: es) (X i).env).map (·.2) = assign e (X i).env :: (assignEach es (X i).env).map (·.2) := by intro _; rfl) : MGs X K (e :: es) (mg :: mgs) (ks ++ ls) := by
  obtain ⟨ta, pa, sa⟩ := h1.ex
  obtain ⟨tb, pb, sb⟩ := h2.ex
  refine ⟨⟨_, fun i => pgs_cons (pa i) (pb i) (hs i), fun σ H ρ μ s xs vs ρ' Q hr m r e q => ?_⟩⟩
  cases vs with
  | nil => cases e
  | cons v vs =>
    unfold RepAll at r
    obtain ⟨w', ws, ew, r1, r2⟩ := r
    unfold gAll at e
    split at e
    · rename_i ρ1 e1
      refine ⟨w', ws, ew, sa σ H ρ μ s w' v ρ1 _ hr m r1 e1 fun σ1 hr1 a1 => ?_⟩
      exact sb σ1 H ρ1 μ s ws vs ρ' Q hr1 m r2 e fun σ2 hr2 a2 => q σ2 hr2 ⟨a2.1.trans a1.1, fun j hj => (a2.2 j fun h => hj (List.mem_append_right _ h)).trans (a1.2 j fun h => hj (List.mem_append_left _ h))⟩
    · cases e
theorem gAll_len : ∀ {gs : List Gx} {vs : List Val} {ρ ρ' : FM.Env}, gAll gs vs ρ = some ρ' → vs.length = gs.length
  | [], [], _, _, _ => rfl
  | g :: gs, v :: vs, ρ, ρ', h => by
    unfold gAll at h
    split at h
    · simp [gAll_len h]
    · cases h
  | [], _ :: _, _, _, h => by cases h
  | _ :: _, [], _, _, h => by cases h
theorem mg_tup {k n : Nat} (c : CxF X K) (h : MGs X K es mgs ks) (hn : ∀ i, (assignEach es (X i).env).length = n := by intro _; rfl) (hst : ∀ i, (assignEach es (X i).env).findIdx? (·.1) = none := by intro _; rfl) (hm : mgs.length = n := by rfl) : MG X K (.Tuple es k pos) (FM.gTup mgs) ks w := by
  obtain ⟨ta, pa, sa⟩ := h.ex
  refine ⟨⟨L2.gTup K n ta, fun i => c.kk i ▸ pg_tup (c.calm i) (pa i) (hn i) (hst i), fun σ H ρ μ s x v ρ' Q hr m r e q => ?_⟩⟩
  have key : ∀ ys a vs, v = .tup ys → x = .ref a → SqT K H a vs → RepAll K H μ ys vs → L2.gTup K n ta x σ H Q := by
    intro ys p ws ev ep hq hrr
    subst ev
    have e : gAll mgs ys ρ = some ρ' := e
    exact ⟨p, ws, ep, hq, by rw [hrr.length, gAll_len e, hm], sa σ H ρ μ s ws ys ρ' Q hr m hrr e q⟩
  cases w with
  | true =>
    obtain ⟨ys, p, ws, ev, ep, hq, hrr⟩ := r
    exact key ys p ws ev ep hq hrr
  | false =>
    have r : Rep K H μ v x := r
    cases v with
    | tup xs =>
      obtain ⟨p, ws, ep, hq, hl, hrr⟩ := rep_tup r
      exact key xs p ws rfl ep hq.sqT hrr
    | _ => cases e
theorem ms_asg {tg : Expr} (he : ME X K EW e me) (hg : MG X K tg mg ks false) (hs : ∀ i, swapsWithSole [tg] e pos.line (X i).env = Pure.pure false := by intro _; rfl) (hw : ∀ i, swappedStores [tg] e (X i).env = Pure.pure none := by intro _; rfl)
    (h1 : ∀ i, (assignEach [tg] (X i).env).map (·.2) = [assign tg (X i).env] := by intro _; rfl) : MS X K EW (.Assign [tg] e pos) (sAsg me mg) := by
  obtain ⟨ta, pa, sa⟩ := he.ex
  obtain ⟨tb, pb, sb⟩ := hg.ex
  refine ⟨⟨_, fun i => ps_asg (pa i) (pb i) (hs i) (hw i) (h1 i), fun σ H ρ μ s D hr m h => ?_⟩⟩
  refine sa σ H ρ μ s _ hr m (wp_mono (wp_seq h) (fun v s1 h1 => ?_) fun _ _ q => q)
  intro x H1 μ1 g1 m1 r1
  split at h1
  · rename_i ρ1 e1
    exact sb σ H1 ρ μ1 s1 x v ρ1 _ (hr.mono g1 m) m1 r1 e1 fun σ' hr' _ => h1 σ' H1 μ1 g1 m1 hr'
  · exact False.elim h1
/-- name = value -/
theorem ms_set {k : Nat} {x : PySem.Str} {pos' : Pos} (hN : ∀ i, (X i).N.Nodup) (hi : ∀ i, (X i).N[k]? = some x) (hx : ∀ i, Loc (X i).env.scope x) (he : ME X K EW e me) (hs : ∀ i, swapsWith e (some (.Name x pos')) pos.line (X i).env = Pure.pure false := by intro _; rfl) (hf : ∀ i, (X i).fn x = true ∨ (X i).env.scope.names.lookup x = some .local := by first | exact fun _ => .inl rfl | exact fun _ => .inr rfl) : MS X K EW (.Assign [.Name x pos'] e pos) (sAsg me (FM.gName k)) := by
  obtain ⟨ta, pa, sa⟩ := he.ex
  refine ⟨⟨_, fun i => ps_set (hN i) (hi i) (hx i) (pa i) (hs i) (hf i), fun σ H ρ μ s D hr m h => ?_⟩⟩
  refine sa σ H ρ μ s _ hr m (wp_mono (wp_seq h) (fun v s1 h1 => ?_) fun _ _ q => q)
  intro x H1 μ1 g1 m1 r1
  exact h1 _ H1 μ1 g1 m1 ((hr.mono g1 m).set k r1)
/-- a, b = x, y -/
theorem ms_par {k l : Nat} {x y : PySem.Str} {px py pt : Pos} {kt k2 : Nat} {pt2 : Pos} (hc : ∀ i, (X i).calm = true) (hN : ∀ i, (X i).N.Nodup) (hi : ∀ i, (X i).N[k]? = some x) (hj : ∀ i, (X i).N[l]? = some y) (hij : k ≠ l)
    (hx : ∀ i, (X i).env.scope.names.lookup x = some .local) (hy : ∀ i, (X i).env.scope.names.lookup y = some .local) (ha : ME X K EW a ma) (hb : ME X K EW b mb)
    (hw : ∀ i, swappedStores [.Tuple [.Name x px, .Name y py] kt pt] (.Tuple [a, b] k2 pt2) (X i).env = Pure.pure (some [x, y]))
    (hst : ∀ i, starEach [a, b] (X i).env = (false, eval a (X i).env) :: starEach [b] (X i).env := by intro _; rfl) (hst2 : ∀ i, starEach [b] (X i).env = (false, eval b (X i).env) :: starEach [] (X i).env := by intro _; rfl)
    (hs : ∀ i, swapsWithSole [.Tuple [.Name x px, .Name y py] kt pt] (.Tuple [a, b] k2 pt2) pos.line (X i).env = Pure.pure false := by intro _; rfl) :
    MS X K EW (.Assign [.Tuple [.Name x px, .Name y py] kt pt] (.Tuple [a, b] k2 pt2) pos) (sPar k l ma mb) := by
  obtain ⟨ta, pa, sa⟩ := ha.ex
  obtain ⟨tb, pb, sb⟩ := hb.ex
  refine ⟨⟨_, fun i => ps_par (hc i) (hN i) (hi i) (hj i) hij (hx i) (hy i) (pa_cons (pa i) (pa_cons (pb i) pa_nil (hst2 i)) (hst i)) (hw i) (hs i), fun σ H ρ μ s D hr m h => ?_⟩⟩
  refine sa σ H ρ μ s _ hr m (wp_mono (wp_seq h) (fun v s1 h1 => ?_) fun _ _ q => q)
  intro x H1 μ1 g1 m1 r1
  refine sb σ H1 ρ μ1 s1 _ (hr.mono g1 m) m1 (wp_mono (wp_seq h1) (fun u s2 h2 => ?_) fun _ _ q => q.mono g1)
  intro y H2 μ2 g2 m2 r2
  have g12 := g1.trans g2
  exact ⟨x, y, rfl, h2 _ H2 μ2 g12 m2 (((hr.mono g12 m).set k (Rep.mono g2 m1 v x r1)).set l r2)⟩
end
end FM

set_option autoImplicit false
/-! what is walked; loops; comprehensions -/
namespace FM
open PySem PySem.Spec PyProof.Rows L2
variable [Tbl]

mutual
theorem beqV_eq : ∀ (a b : Val), beqV a b = true → a = b
  | .non, b, h => by cases b <;> simp [beqV] at h; rfl
  | .bl x, b, h => by cases b <;> simp [beqV] at h; rw [h]
  | .int x, b, h => by cases b <;> simp [beqV] at h; rw [h]
  | .str x, b, h => by cases b <;> simp [beqV] at h; rw [h]
  | .tup x, b, h => by cases b <;> simp [beqV] at h; rw [beqVs_eq _ _ h]
  | .lst x, b, h => by cases b <;> simp [beqV] at h; rw [beqVs_eq _ _ h]
  | .scr x, b, h => by cases b <;> simp [beqV] at h; rw [beqVs_eq _ _ h]
  | .dct x y, b, h => by cases b <;> simp [beqV] at h; rw [beqVs_eq _ _ h.1, beqVs_eq _ _ h.2]
  | .ref x y, b, h => by cases b <;> simp [beqV] at h; rw [h.1, h.2]
theorem beqVs_eq : ∀ (a b : List Val), beqVs a b = true → a = b
  | [], b, h => by cases b <;> simp [beqVs] at h; rfl
  | x :: xs, b, h => by cases b <;> simp [beqVs] at h; rw [beqV_eq _ _ h.1, beqVs_eq _ _ h.2]
end
structure Yields (K : PySem.W.Frag) (J : It) (H0 : Hp) (μ0 : Mu) (w : Bool) (xs : List Val) (keep : S → Bool) : Prop where
  len : xs.length ≤ sizeLine
  go : ∀ H μ s i, Grow μ0 H0 μ H → Mem K H μ s → keep s = true → i < xs.length → J.go i H
  stop : ∀ H μ s, Grow μ0 H0 μ H → Mem K H μ s → keep s = true → J.stop xs.length H
  yld : ∀ H μ s i v x H', Grow μ0 H0 μ H → Mem K H μ s → keep s = true → xs[i]? = some v → J.yld i H x H' → Grow μ H μ H' ∧ Mem K H' μ s ∧ RB K H' μ w v x
structure MI {ι : Type} (X : ι → Cx) (K : PySem.W.Frag) (EW : XK) (tg iter : Expr) (m : Ix) (w : Bool) : Prop where
  ex : ∃ wi, (∀ i, PI (X i) tg iter wi) ∧ ∀ σ H ρ μ s (R : It → Hp → Prop), SR K H μ ρ σ → Mem K H μ s →
    (m ρ s).wp (fun p s' => ∀ J H' μ', Grow μ H μ' H' → Mem K H' μ' s' → Yields K J H' μ' w p.1 p.2 → R J H') (XP K μ H EW) → wi σ H R
section
variable {ι : Type} {X : ι → Cx} {K : PySem.W.Frag} {EW : XK} {tg e l a b : Expr} {me ma mb : Ex} {tl : TE} {pos p : Pos}
def iQ (K : PySem.W.Frag) (tl : TE) : TI := fun σ H R => tl σ H fun x H1 => ∃ q, x = .ref q ∧ (((∃ xs, SqL K H1 q xs) ∧ R (Itl K q) H1) ∨ ((∃ xs, SqT K H1 q xs) ∧ R (Itt K q) H1))
theorem pi_q {X : Cx} (hl : PE X l tl) : PI X tg l (iQ X.K tl) := by
  constructor
  intro pins s σ H R I h
  refine thn (hl.run pins s σ H _ I h) fun v s1 hq => ?_
  obtain ⟨x, H1, I1, r1, q, e, hq⟩ := hq
  subst e
  cases r1
  have fresh : ∀ c ∈ [s1.heap.objs.size], FpOk X pins H1 c := fun c hc => by
    have ec : c = s1.heap.objs.size := by simpa using hc
    rw [ec]
    exact I1.fpOk (Nat.le_refl _) (I1.hok.fresh (Nat.le_refl _))
  rcases hq with ⟨⟨xs, hs⟩, hR⟩ | ⟨⟨xs, hs⟩, hR⟩
  · obtain ⟨its, rv, pl, hz⟩ := I1.list hs
    exact wpAny_pyIter_list pl.isList ⟨_, [s1.heap.objs.size], _, _, H1, rfl, I1.kept (t' := s1.toks) fun b o e => Heap.get?_push_of_some _ e, turn_list q _, ⟨_, Heap.get?_push_size _ rfl, rfl, rfl⟩, fresh, hR⟩
  · obtain ⟨its, rv, pl, hz⟩ := I1.tuple hs
    exact wpAny_pyIter_tuple (show s1.heap.IsTuple q its.toArray from pl) ⟨_, [s1.heap.objs.size], _, _, H1, rfl, I1.kept (t' := s1.toks) fun b o e => Heap.get?_push_of_some _ e, turn_tuple q _, ⟨_, Heap.get?_push_size _ rfl, rfl, rfl⟩, fresh, hR⟩
theorem yields_list {H0 : Hp} {μ0 : Mu} {xs : List Val} {keep : S → Bool} {q : Addr} (hl : xs.length ≤ sizeLine)
    (h : ∀ H μ s, Grow μ0 H0 μ H → Mem K H μ s → keep s = true → ∃ vs, SqL K H q vs ∧ RepAll K H μ xs vs) : Yields K (Itl K q) H0 μ0 false xs keep := by
  refine ⟨hl, fun H μ s i g m k hi => ?_, fun H μ s g m k => ?_, fun H μ s i v x H' g m k hv y => ?_⟩
  · obtain ⟨vs, hs, hr⟩ := h H μ s g m k
    exact ⟨vs, vs[i]'(by rw [hr.length]; exact hi), hs, List.getElem?_eq_getElem _⟩
  · obtain ⟨vs, hs, hr⟩ := h H μ s g m k
    exact ⟨vs, hs, by rw [hr.length]; exact Nat.le_refl _⟩
  · obtain ⟨vs, hs, hr⟩ := h H μ s g m k
    obtain ⟨e, hx⟩ := y
    subst e
    obtain ⟨w, hw, rw'⟩ := hr.get hv
    have := hx vs hs
    rw [hw] at this
    cases this
    exact ⟨.refl m, m, rw'⟩
theorem mi_seq (c : CxF X K) (he : ME X K EW e me) : MI X K EW tg e (iSeq me) false := by
  obtain ⟨te, pe, se⟩ := he.ex
  refine ⟨⟨iQ K te, fun i => c.kk i ▸ pi_q (pe i), fun σ H ρ μ s R hr m h => ?_⟩⟩
  refine se σ H ρ μ s _ hr m (wp_mono (wp_bind h) (fun v s1 h1 => ?_) fun _ _ q => q)
  intro x H1 μ1 g1 m1 r1
  cases v with
  | tup xs =>
    obtain ⟨q, vs, eq, hq, hl, hrr⟩ := rep_tup r1
    refine ⟨q, eq, .inr ⟨⟨vs, hq.sqT⟩, ?_⟩⟩
    refine h1 (Itt K q) H1 μ1 g1 m1 ⟨by rw [← hrr.length]; exact hl, fun H2 μ2 s2 i g2 m2 k hi => ?_, fun H2 μ2 s2 g2 m2 k => ?_, fun H2 μ2 s2 i v y H' g2 m2 k hv hy => ?_⟩
    all_goals
      have r2 := Rep.mono g2 m1 _ _ r1
      obtain ⟨q', vs', eq', hq', _, hrr'⟩ := rep_tup r2
      rw [eq] at eq'
      cases eq'
    · exact ⟨vs', vs'[i]'(by rw [hrr'.length]; exact hi), hq'.sqT, List.getElem?_eq_getElem _⟩
    · exact ⟨vs', hq'.sqT, by rw [hrr'.length]; exact Nat.le_refl _⟩
    · obtain ⟨e, hx⟩ := hy
      subst e
      obtain ⟨w, hw, rw'⟩ := hrr'.get hv
      have := hx vs' hq'.sqT
      rw [hw] at this
      cases this
      exact ⟨.refl m2, m2, rw'⟩
  | lst xs =>
    obtain ⟨q, vs, eq, hq, hl, hrr⟩ := rep_asL m1 r1 (xs := xs) rfl
    refine ⟨q, eq, .inl ⟨⟨vs, hq⟩, ?_⟩⟩
    refine h1 (Itl K q) H1 μ1 g1 m1 (yields_list (by rw [← hrr.length]; exact hl) fun H2 μ2 s2 g2 m2 k => ?_)
    obtain ⟨q', vs', eq', hq', _, hrr'⟩ := rep_asL m2 (Rep.mono g2 m1 _ _ r1) (xs := xs) rfl
    rw [eq] at eq'
    cases eq'
    exact ⟨vs', hq', hrr'⟩
  | scr xs =>
    obtain ⟨q, vs, eq, hq, hl, hrr⟩ := rep_asL m1 r1 (xs := xs) rfl
    refine ⟨q, eq, .inl ⟨⟨vs, hq⟩, ?_⟩⟩
    refine h1 (Itl K q) H1 μ1 g1 m1 (yields_list (by rw [← hrr.length]; exact hl) fun H2 μ2 s2 g2 m2 k => ?_)
    obtain ⟨q', vs', eq', hq', _, hrr'⟩ := rep_asL m2 (Rep.mono g2 m1 _ _ r1) (xs := xs) rfl
    rw [eq] at eq'
    cases eq'
    exact ⟨vs', hq', hrr'⟩
  | ref f n =>
    cases ea : asL s1 (.ref f n) with
    | none =>
      have : asQ s1 (.ref f n) = none := ea
      rw [this] at h1
      exact False.elim h1
    | some xs =>
      have eq0 : asQ s1 (.ref f n) = some xs := ea
      rw [eq0] at h1
      obtain ⟨q, vs, eq, hq, hl, hrr⟩ := rep_asL m1 r1 ea
      refine ⟨q, eq, .inl ⟨⟨vs, hq⟩, ?_⟩⟩
      refine h1 (Itl K q) H1 μ1 g1 m1 (yields_list (by rw [← hrr.length]; exact hl) fun H2 μ2 s2 g2 m2 k => ?_)
      have k : (match lk s2 f n with | some (.lst ys) => beqVs ys xs | _ => false) = true := k
      have ek : asL s2 (.ref f n) = some xs := by
        split at k
        · rename_i ys e
          simp only [asL, e, beqVs_eq _ _ k]
        · cases k
      obtain ⟨q', vs', eq', hq', _, hrr'⟩ := rep_asL m2 (Rep.mono g2 m1 _ _ r1) ek
      rw [eq] at eq'
      cases eq'
      exact ⟨vs', hq', hrr'⟩
  | _ => exact False.elim h1
theorem rangeV_get {lo : Int} {n i : Nat} {v : Val} (h : (rangeV lo n)[i]? = some v) : i < n ∧ v = .int (lo + (i : Nat)) := by
  unfold rangeV at h
  rw [List.getElem?_map] at h
  by_cases hi : i < n
  · rw [List.getElem?_range hi] at h
    cases h
    exact ⟨hi, rfl⟩
  · rw [List.getElem?_eq_none (by simp; omega)] at h
    cases h
theorem rangeV_len {lo : Int} {n : Nat} : (rangeV lo n).length = n := by simp [rangeV]
theorem yields_range {H0 : Hp} {μ0 : Mu} {lo : Int} {n : Nat} (hl : n ≤ sizeLine) : Yields K (Itr lo n) H0 μ0 false (rangeV lo n) (fun _ => true) := by
  refine ⟨by rw [rangeV_len]; exact hl, fun H μ s i g m k hi => by rw [rangeV_len] at hi; exact hi, fun H μ s g m k => by rw [rangeV_len]; exact Nat.le_refl _, fun H μ s i v x H' g m k hv y => ?_⟩
  obtain ⟨e, hx⟩ := y
  subst e
  obtain ⟨_, ev⟩ := rangeV_get hv
  rw [ev, hx]
  exact ⟨.refl m, m, show Rep K _ _ _ _ from rep_of_int⟩
theorem mi_range1 (hg : ∀ i, Gl (X i) "range") (hm : ∀ i, (X i).mg "range" = none) (ha : ME X K EW a ma) (hs : ∀ i, starEach [a] (X i).env = (false, eval a (X i).env) :: starEach [] (X i).env := by intro _; rfl) (hs2 : ∀ i, starEach [a] (X i).env = [(false, eval a (X i).env)] := by intro _; rfl) : MI X K EW tg (.Call (.Name "range" p) [a] [] pos) (iRange1 ma) false := by
  obtain ⟨ta, pa, sa⟩ := ha.ex
  refine ⟨⟨_, fun i => pi_range1 (hg i) (hm i) (pa_cons (pa i) pa_nil (hs i)) (hs2 i), fun σ H ρ μ s R hr m h => ?_⟩⟩
  refine sa σ H ρ μ s _ hr m (wp_mono (wp_bind h) (fun v s1 h1 => ?_) fun _ _ q => q)
  intro x H1 μ1 g1 m1 r1
  cases v with
  | int n =>
    simp only [] at h1
    split at h1
    · rename_i hn
      have hz : (sizeLine : Int) = 16777216 := by rw [show sizeLine = 16777216 from rfl]; rfl
      exact ⟨n, by rw [rep_int r1], by omega, by omega, h1 (Itr 0 n.toNat) H1 μ1 g1 m1 (yields_range (by omega))⟩
    · exact False.elim h1
  | _ => exact False.elim h1
theorem mi_range2 (hg : ∀ i, Gl (X i) "range") (hm : ∀ i, (X i).mg "range" = none) (ha : ME X K EW a ma) (hb : ME X K EW b mb) (hs : ∀ i, starEach [a, b] (X i).env = (false, eval a (X i).env) :: starEach [b] (X i).env := by intro _; rfl) (hs1 : ∀ i, starEach [b] (X i).env = (false, eval b (X i).env) :: starEach [] (X i).env := by intro _; rfl)
    (hs2 : ∀ i, starEach [a, b] (X i).env = [(false, eval a (X i).env), (false, eval b (X i).env)] := by intro _; rfl) (hs3 : ∀ i, starEach [b] (X i).env = [(false, eval b (X i).env)] := by intro _; rfl) : MI X K EW tg (.Call (.Name "range" p) [a, b] [] pos) (iRange2 ma mb) false := by
  obtain ⟨ta, pa, sa⟩ := ha.ex
  obtain ⟨tb, pb, sb⟩ := hb.ex
  refine ⟨⟨_, fun i => pi_range2 (hg i) (hm i) (pa_cons (pa i) (pa_cons (pb i) pa_nil (hs1 i)) (hs i)) (hs2 i) (hs3 i), fun σ H ρ μ s R hr m h => ?_⟩⟩
  refine sa σ H ρ μ s _ hr m (wp_mono (wp_bind h) (fun v s1 h1 => ?_) fun _ _ q => q)
  intro x H1 μ1 g1 m1 r1
  refine sb σ H1 ρ μ1 s1 _ (hr.mono g1 m) m1 (wp_mono (wp_bind h1) (fun u s2 h2 => ?_) fun _ _ q => q.mono g1)
  intro y H2 μ2 g2 m2 r2
  split at h2
  · rename_i k n
    split at h2
    · rename_i hn
      have hz : (sizeLine : Int) = 16777216 := by rw [show sizeLine = 16777216 from rfl]; rfl
      refine ⟨k, n, by rw [rep_int r1, rep_int r2], ⟨by omega, by omega, by omega, by omega⟩, h2 (Itr k (n - k).toNat) H2 μ2 (g1.trans g2) m2 (yields_range (by omega))⟩
    · exact False.elim h2
  · exact False.elim h2
/-- for -/
theorem ms_for {iter : Expr} {body : List Stmt} {mi : Ix} {mg : Gx} {mb : Sx} {ks : List Nat} {w : Bool} (hp : ∀ i, PassesOwn (model (X i).prog (X i).w) (X i).A (X i).env (X i).xe) (c : CxF X K) (hi : MI X K EW tg iter mi w) (hg : MG X K tg mg ks w) (hb : MSs X K EW body mb)
    (hs : ∀ i x, foldedSetIterable iter (X i).env x = Pure.pure x := by intro _ _; rfl) : MS X K EW (.For tg iter body [] pos) (sFor mi mg mb) := by
  obtain ⟨wi, pi, si⟩ := hi.ex
  obtain ⟨tg', pg, sg⟩ := hg.ex
  obtain ⟨tb, pb, sb⟩ := hb.ex
  refine ⟨⟨_, fun i => ps_for (hp i) (c.calm i) (pi i) (pg i) (pb i) (hs i), fun σ H ρ μ s D hr m h => ?_⟩⟩
  refine si σ H ρ μ s _ hr m (wp_mono (wp_seq h) (fun q s1 h1 => ?_) fun _ _ q => q)
  obtain ⟨xs, keep⟩ := q
  intro J H1 μ1 g1 m1 Y
  refine ⟨fun i n σ H => n = xs.length - i ∧ i ≤ xs.length ∧ ∃ ρ μ s, Grow μ1 H1 μ H ∧ Mem K H μ s ∧ SR K H μ ρ σ ∧ SW K μ H D EW (forL keep mg mb (xs.drop i) ρ s),
    ⟨xs.length, by simp, Nat.zero_le _, ρ, μ1, s1, .refl m1, m1, hr.mono g1 m, SW.mono g1 h1⟩, fun i n σ2 H2 hW => ?_⟩
  obtain ⟨en, hi, ρ2, μ2, s2, g2, m2, r2, h2⟩ := hW
  by_cases hlt : i < xs.length
  · rw [List.drop_eq_getElem_cons hlt] at h2
    have hx : xs[i]? = some xs[i] := List.getElem?_eq_getElem hlt
    generalize xs[i] = v at h2 hx
    unfold SW forL at h2
    split at h2
    · rename_i hk
      split at h2
      · rename_i ρ3 e3
        refine .inr ⟨Y.go H2 μ2 s2 i g2 m2 hk hlt, fun σ' H' => (xs.length - (i + 1) = xs.length - (i + 1)) ∧ i + 1 ≤ xs.length ∧ ∃ ρ μ s, Grow μ1 H1 μ H' ∧ Mem K H' μ s ∧ SR K H' μ ρ σ' ∧ SW K μ H' D EW (forL keep mg mb (xs.drop (i + 1)) ρ s),
          fun σ' H' hN => ⟨_, by omega, hN⟩, fun x H' hy => ?_⟩
        obtain ⟨g3, m3, r3⟩ := Y.yld H2 μ2 s2 i v x H' g2 m2 hk hx hy
        refine sg σ2 H' ρ2 μ2 s2 x v ρ3 _ (r2.mono g3 m2) m3 r3 e3 fun σ4 hr4 _ => ?_
        refine sb σ4 H' ρ3 μ2 s2 _ hr4 m3 ?_
        unfold SW
        have next : ∀ (ρ5 : FM.Env) (s5 : S), (forL keep mg mb (xs.drop (i + 1)) ρ5 s5).wp (NP K μ2 H2 D.nx) (VP K μ2 H2 D.rt) (NP K μ2 H2 D.bk) (NP K μ2 H2 D.ct) (XP K μ2 H2 EW) →
            NP K μ2 H' (fun σ' H' => (xs.length - (i + 1) = xs.length - (i + 1)) ∧ i + 1 ≤ xs.length ∧ ∃ ρ μ s, Grow μ1 H1 μ H' ∧ Mem K H' μ s ∧ SR K H' μ ρ σ' ∧ SW K μ H' D EW (forL keep mg mb (xs.drop (i + 1)) ρ s)) ρ5 s5 := by
          intro ρ5 s5 h5 σ6 H6 μ6 g6 m6 r6
          exact ⟨rfl, hlt, ρ5, μ6, s5, g2.trans (g3.trans g6), m6, r6, SW.mono (g3.trans g6) h5⟩
        cases e5 : mb ρ3 s2 with
        | nx ρ5 s5 => rw [e5] at h2; exact next ρ5 s5 h2
        | ct ρ5 s5 => rw [e5] at h2; exact next ρ5 s5 h2
        | bk ρ5 s5 => rw [e5] at h2; exact NP.mono g3 h2
        | rt v5 s5 => rw [e5] at h2; exact VP.mono g3 h2
        | ex e6 s5 => rw [e5] at h2; exact XP.mono g3 h2
        | no => rw [e5] at h2; exact h2
      · exact False.elim h2
    · exact False.elim h2
  · have ei : i = xs.length := by omega
    subst ei
    rw [List.drop_length] at h2
    unfold SW forL at h2
    split at h2
    · rename_i hk
      exact .inl ⟨Y.stop H2 μ2 s2 g2 m2 hk, h2 σ2 H2 μ2 (.refl m2) m2 r2⟩
    · exact False.elim h2
/-- while -/
theorem ms_while {c : Expr} {body : List Stmt} {mt : Tx} {mb : Sx} {N : Nat} (hp : ∀ i, PassesOwn (model (X i).prog (X i).w) (X i).A (X i).env (X i).xe) (hc : MT X K EW c mt) (hb : MSs X K EW body mb) : MS X K EW (.While c body [] pos) (sWhile N mt mb) := by
  obtain ⟨tc, pc, sc⟩ := hc.ex
  obtain ⟨tb, pb, sb⟩ := hb.ex
  refine ⟨⟨_, fun i => ps_while (hp i) (pc i) (pb i), fun σ H ρ μ s D hr m h => ?_⟩⟩
  refine ⟨fun n σ2 H2 => ∃ ρ2 μ2 s2, Grow μ H μ2 H2 ∧ Mem K H2 μ2 s2 ∧ SR K H2 μ2 ρ2 σ2 ∧ SW K μ2 H2 D EW (whileL mt mb n ρ2 s2), ⟨N, ρ, μ, s, .refl m, m, hr, h⟩, fun n σ2 H2 hW => ?_⟩
  obtain ⟨ρ2, μ2, s2, g2, m2, r2, h2⟩ := hW
  cases n with
  | zero => exact False.elim h2
  | succ n =>
    refine sc σ2 H2 ρ2 μ2 s2 _ r2 m2 (wp_mono (wp_seq h2) (fun v s3 h3 => ?_) fun _ _ q => q)
    intro H3 μ3 g3 m3
    cases v with
    | false =>
      rw [if_neg Bool.false_ne_true] at h3 ⊢
      exact h3 σ2 H3 μ3 g3 m3 (r2.mono g3 m2)
    | true =>
      rw [if_pos rfl] at h3 ⊢
      refine ⟨fun σ' H' => ∃ ρ5 μ5 s5, Grow μ H μ5 H' ∧ Mem K H' μ5 s5 ∧ SR K H' μ5 ρ5 σ' ∧ SW K μ5 H' D EW (whileL mt mb n ρ5 s5), fun σ' H' hN => ⟨n, Nat.lt_succ_self n, hN⟩, ?_⟩
      refine sb σ2 H3 ρ2 μ3 s3 _ (r2.mono g3 m2) m3 ?_
      unfold SW
      have next : ∀ (ρ5 : FM.Env) (s5 : S), SW K μ2 H2 D EW (whileL mt mb n ρ5 s5) →
          NP K μ3 H3 (fun σ' H' => ∃ ρ5 μ5 s5, Grow μ H μ5 H' ∧ Mem K H' μ5 s5 ∧ SR K H' μ5 ρ5 σ' ∧ SW K μ5 H' D EW (whileL mt mb n ρ5 s5)) ρ5 s5 := by
        intro ρ5 s5 h5 σ6 H6 μ6 g6 m6 r6
        exact ⟨ρ5, μ6, s5, g2.trans (g3.trans g6), m6, r6, SW.mono (g3.trans g6) h5⟩
      cases e5 : mb ρ2 s3 with
      | nx ρ5 s5 => rw [e5] at h3; exact next ρ5 s5 h3
      | ct ρ5 s5 => rw [e5] at h3; exact next ρ5 s5 h3
      | bk ρ5 s5 => rw [e5] at h3; exact NP.mono g3 h3
      | rt v5 s5 => rw [e5] at h3; exact VP.mono g3 h3
      | ex e6 s5 => rw [e5] at h3; exact XP.mono g3 h3
      | no => rw [e5] at h3; exact h3
end
end FM

set_option autoImplicit false
/-! comprehensions, new lists, lists that change -/
namespace FM
open PySem PySem.Spec PyProof.Rows L2
variable [Tbl]

theorem get_wipe (σ : L2.St) : ∀ (vs : List Nat) (j : Nat), (L2.wipe σ vs)[j]? = if j ∈ vs ∧ j < σ.length then some none else σ[j]?
  | [], j => by simp [L2.wipe]
  | v :: vs, j => by
    unfold L2.wipe
    by_cases hj : v = j
    · subst hj
      by_cases hl : v < σ.length
      · rw [List.getElem?_set_self (by rw [wipe_length]; exact hl), if_pos ⟨List.mem_cons_self, hl⟩]
      · rw [List.getElem?_eq_none (by rw [List.length_set, wipe_length]; omega), if_neg (fun q => hl q.2), List.getElem?_eq_none (by omega)]
    · rw [List.getElem?_set_ne hj, get_wipe σ vs j]
      have : (j ∈ v :: vs) ↔ j ∈ vs := by simp [Ne.symm hj]
      simp only [this]
theorem wipe_agr {σ σ' : L2.St} {ks vs : List Nat} (h : Agr ks σ σ') (hk : ∀ k ∈ ks, k ∈ vs) : L2.wipe σ' vs = L2.wipe σ vs := by
  apply List.ext_getElem?
  intro j
  rw [get_wipe, get_wipe, h.1]
  by_cases hj : j ∈ vs ∧ j < σ.length
  · rw [if_pos hj, if_pos hj]
  · rw [if_neg hj, if_neg hj]
    by_cases hm : j ∈ ks
    · have : ¬ j < σ.length := fun q => hj ⟨hk j hm, q⟩
      rw [List.getElem?_eq_none (by rw [h.1]; omega), List.getElem?_eq_none (by omega)]
    · exact h.2 j hm
/-- a clause's tests -/
structure MTs {ι : Type} (X : ι → Cx) (K : PySem.W.Frag) (EW : XK) (ifs : List Expr) (m : Tx) : Prop where
  ex : ∃ t, (∀ i, PTs (X i) ifs t) ∧ ∀ σ H ρ μ s Q, SR K H μ ρ σ → Mem K H μ s → (m ρ s).wp (TsP K μ H Q) (XP K μ H EW) → t σ H Q
abbrev NoX : XK := fun _ _ _ => False
section
variable {ι : Type} {X : ι → Cx} {K : PySem.W.Frag} {EW : XK} {c : Expr} {mt : Tx}
theorem mts_nil : MTs X K EW [] FM.tYes := ⟨⟨_, fun _ => pts_nil, fun σ H ρ μ s Q hr m h => h H μ (.refl m) m⟩⟩
theorem mts_one (h : MT X K EW c mt) : MTs X K EW [c] mt := let ⟨t, p, q⟩ := h.ex; ⟨⟨t, fun i => pts_one (p i), q⟩⟩
end
section
variable {ι : Type} {X : ι → Cx} {K : PySem.W.Frag} {EW : XK} {elt tg iter : Expr} {ifs : List Expr} {scope : Scope} {own : List (PySem.Str × Nat)} {pos : Pos} {mi : Ix} {mg : Gx} {mt : Tx} {me : Ex} {ks : List Nat} {w : Bool}
theorem comp_sndP {wi : TI} {g : TG} {tt : TT} {te : TE} {σ : L2.St} {H : Hp} {ρ : FM.Env} {μ : Mu} {s : S} {Q : VK} (vs : List Nat)
    (si : ∀ σ H ρ μ s (R : It → Hp → Prop), SR K H μ ρ σ → Mem K H μ s → (mi ρ s).wp (fun p s' => ∀ J H' μ', Grow μ H μ' H' → Mem K H' μ' s' → Yields K J H' μ' w p.1 p.2 → R J H') (XP K μ H EW) → wi σ H R)
    (sg : ∀ σ H ρ μ s x v ρ' Q, SR K H μ ρ σ → Mem K H μ s → RB K H μ w v x → mg v ρ = some ρ' → (∀ σ', SR K H μ ρ' σ' → Agr ks σ σ' → Q σ' H) → g x σ H Q)
    (st : ∀ σ4 H4 ρ4 μ4 s4 Q, (∀ j : Nat, j ∉ vs → σ4[j]? = σ[j]?) → Grow μ H μ4 H4 → SR K H4 μ4 ρ4 σ4 → Mem K H4 μ4 s4 → (mt ρ4 s4).wp (TsP K μ4 H4 Q) (XP K μ4 H4 NoX) → tt σ4 H4 Q)
    (se : ∀ σ H ρ μ s Q, SR K H μ ρ σ → Mem K H μ s → (me ρ s).wp (VP K μ H Q) (XP K μ H NoX) → te σ H Q)
    (hk : ∀ k ∈ ks, k ∈ vs) (hr : SR K H μ ρ σ) (m : Mem K H μ s) (h : (fComp mi vs mg mt me ρ s).wp (FsP K μ H Q) (XP K μ H EW)) : tLc wi g tt te vs σ H Q := by
  refine si σ H ρ μ s _ hr m (wp_mono (wp_bind h) (fun q s1 h1 => ?_) fun _ _ q => q)
  obtain ⟨xs, keep⟩ := q
  intro J H1 μ1 g1 m1 Y D hD
  have h1 := wp_nox (E' := fun _ _ => False) h1
  simp only at h1 Y
  have off0 : Off μ1 D := m1.off hD
  have hD0 : H D = none := g1.none hD
  have offs : ∀ (μ2 : Mu) (H2 : Hp), Grow μ1 H1 μ2 H2 → True := fun _ _ _ => trivial
  refine ⟨fun i n H2 => n = xs.length - i ∧ i ≤ xs.length ∧ ∃ (acc : List Val) (ws : List V) (μ2 : Mu) (s2 : S), Grow μ1 H1 (μ2.hide D) H2 ∧ Mem K H2 (μ2.hide D) s2 ∧ ¬ μ2.hid D ∧ H2 D = some (.lst ws) ∧ ws.length ≤ i ∧ RepAll K H2 (μ2.hide D) acc ws ∧
      (compL keep mg mt me (FM.wipe ρ vs) (xs.drop i) acc s2).wp (FsP K μ H Q) (fun _ _ => False),
    ⟨xs.length, by simp, Nat.zero_le _, [], [], μ1, s1, m1.newHid hD, ?_, off0.2, upd_same, Nat.le_refl _, .nil, h1⟩, fun i n H2 hW => ?_⟩
  · refine ⟨m1.shp, m1.nd, fun f hf b hb hq => ?_, fun f n b c e1 e2 => ?_, m1.bel, fun b hb => ?_, tabs_new m1.tb hD⟩
    · rcases hq with e | e
      · exact off0.1 f hf (by rw [← e]; exact hb)
      · exact m1.sep f hf b hb e
    · have q := m1.cel f n b c e1 e2
      cases c with
      | lst ys =>
        obtain ⟨us, e, hl, hr⟩ := q
        exact ⟨us, by rw [upd_ne (ne_of_none e hD)]; exact e, hl, RepAll.mono (m1.newHid hD) m1 _ _ hr⟩
      | dct _ _ => exact q.elim
    · rcases hb with e | e
      · rw [e]; exact ⟨[], upd_same⟩
      · obtain ⟨us, e2⟩ := m1.hd b e
        exact ⟨us, by rw [upd_ne (ne_of_none e2 hD)]; exact e2⟩
  · obtain ⟨en, hi, acc, ws, μ2, s2, g2, m2, nh, eD, hwl, hrr, h2⟩ := hW
    by_cases hlt : i < xs.length
    · rw [List.drop_eq_getElem_cons hlt] at h2
      have hx : xs[i]? = some xs[i] := List.getElem?_eq_getElem hlt
      generalize xs[i] = v at h2 hx
      unfold compL at h2
      split at h2
      · rename_i hk2
        split at h2
        · rename_i ρ3 e3
          refine .inr ⟨Y.go H2 _ s2 i g2 m2 hk2 hlt, fun H' => (xs.length - (i + 1) = xs.length - (i + 1)) ∧ i + 1 ≤ xs.length ∧ ∃ (acc : List Val) (ws : List V) (μ2 : Mu) (s2 : S), Grow μ1 H1 (μ2.hide D) H' ∧ Mem K H' (μ2.hide D) s2 ∧ ¬ μ2.hid D ∧ H' D = some (.lst ws) ∧ ws.length ≤ i + 1 ∧ RepAll K H' (μ2.hide D) acc ws ∧
              (compL keep mg mt me (FM.wipe ρ vs) (xs.drop (i + 1)) acc s2).wp (FsP K μ H Q) (fun _ _ => False),
            fun H' hN => ⟨_, by omega, hN⟩, fun x H' hy => ?_⟩
          obtain ⟨g3, m3, r3⟩ := Y.yld H2 _ s2 i v x H' g2 m2 hk2 hx hy
          have hrw : SR K H' (μ2.hide D) (FM.wipe ρ vs) (L2.wipe σ vs) := ((hr.mono (g1.trans (g2.trans g3)) m)).wipe vs
          refine sg (L2.wipe σ vs) H' (FM.wipe ρ vs) (μ2.hide D) s2 x v ρ3 _ hrw m3 r3 e3 fun σ4 hr4 ag => ⟨?_, ?_⟩
          · rw [wipe_agr ag hk]
            apply List.ext_getElem?
            intro j
            rw [get_wipe, get_wipe, wipe_length]
            by_cases hj : j ∈ vs ∧ j < σ.length
            · rw [if_pos hj, if_pos hj]
            · rw [if_neg hj, if_neg hj]
          refine st σ4 H' ρ3 _ s2 _ (fun j hj => by rw [ag.2 j (fun q => hj (hk j q)), get_wipe, if_neg (fun q => hj q.1)]) (g1.trans (g2.trans g3)) hr4 m3 (wp_mono (wp_bind h2) (fun b s5 h5 => ?_) fun _ _ q => q.elim)
          intro H5 μ5 g5 m5
          have hD5 : μ5.hid D := g5.hs D (.inl rfl)
          have e5 : H5 D = some (.lst ws) := by rw [g5.hk D (.inl rfl), g3.hk D (.inl rfl)]; exact eD
          have r5 : RepAll K H5 μ5 acc ws := RepAll.mono (g3.trans g5) m2 _ _ hrr
          cases b with
          | false =>
            rw [if_neg Bool.false_ne_true] at h5 ⊢
            refine ⟨rfl, hlt, acc, ws, μ5.show D, s5, ?_, ?_, fun q => q.1 rfl, e5, by omega, ?_, h5⟩
            · rw [show_hide hD5]; exact g2.trans (g3.trans g5)
            · rw [show_hide hD5]; exact m5
            · rw [show_hide hD5]; exact r5
          | true =>
            rw [if_pos rfl] at h5 ⊢
            refine se σ4 H5 ρ3 μ5 s5 _ (hr4.mono g5 m3) m5 (wp_mono (wp_bind h5) (fun u s6 h6 => ?_) fun _ _ q => q.elim)
            intro y H6 μ6 g6 m6 r6
            have hD6 : μ6.hid D := g6.hs D hD5
            have e6 : H6 D = some (.lst ws) := by rw [g6.hk D hD5]; exact e5
            have no : ¬ Off μ6 D := fun q => q.2 hD6
            refine ⟨ws, e6, by have := Y.len; omega, rfl, hlt, acc ++ [u], ws ++ [y], μ6.show D, s6, ?_, ?_, fun q => q.1 rfl, upd_same, by simp; omega, ?_, h6⟩
            · rw [show_hide hD6]; exact (g2.trans (g3.trans (g5.trans g6))).updHid hD off0
            · rw [show_hide hD6]; exact m6.updHid hD6
            · rw [show_hide hD6]
              exact RepAll.upd no ⟨ws, e6⟩ _ _ ((RepAll.mono g6 m5 _ _ r5).append (.one r6))
        · exact False.elim h2
      · exact False.elim h2
    · have ei : i = xs.length := by omega
      subst ei
      rw [List.drop_length] at h2
      unfold compL at h2
      split at h2
      · rename_i hk2
        exact .inl ⟨Y.stop H2 _ s2 g2 m2 hk2, h2 D ws H2 μ2 (g1.trans g2) m2 hD0 nh eD (Nat.le_trans hwl Y.len) hrr⟩
      · exact False.elim h2
theorem comp_snd {wi : TI} {g : TG} {tt : TT} {te : TE} {σ : L2.St} {H : Hp} {ρ : FM.Env} {μ : Mu} {s : S} {Q : VK} (vs : List Nat)
    (si : ∀ σ H ρ μ s (R : It → Hp → Prop), SR K H μ ρ σ → Mem K H μ s → (mi ρ s).wp (fun p s' => ∀ J H' μ', Grow μ H μ' H' → Mem K H' μ' s' → Yields K J H' μ' w p.1 p.2 → R J H') (XP K μ H EW) → wi σ H R)
    (sg : ∀ σ H ρ μ s x v ρ' Q, SR K H μ ρ σ → Mem K H μ s → RB K H μ w v x → mg v ρ = some ρ' → (∀ σ', SR K H μ ρ' σ' → Agr ks σ σ' → Q σ' H) → g x σ H Q)
    (st : ∀ σ H ρ μ s Q, SR K H μ ρ σ → Mem K H μ s → (mt ρ s).wp (TsP K μ H Q) (XP K μ H NoX) → tt σ H Q)
    (se : ∀ σ H ρ μ s Q, SR K H μ ρ σ → Mem K H μ s → (me ρ s).wp (VP K μ H Q) (XP K μ H NoX) → te σ H Q)
    (hk : ∀ k ∈ ks, k ∈ vs) (hr : SR K H μ ρ σ) (m : Mem K H μ s) (h : (fComp mi vs mg mt me ρ s).wp (FsP K μ H Q) (XP K μ H EW)) : tLc wi g tt te vs σ H Q :=
  comp_sndP vs si sg (fun σ4 H4 ρ4 μ4 s4 Q _ _ r m => st σ4 H4 ρ4 μ4 s4 Q r m) se hk hr m h
/-- the block's contexts -/
abbrev Blk (ι : Type) := ι × Shared × Hp × Addr × List (PySem.Str × Addr) × List Addr
abbrev blk {ι : Type} (X : ι → Cx) (scope : Scope) : Blk ι → Cx := fun p => (X p.1).blk p.2.1 p.2.2.1 scope (compEnvC scope p.2.2.2.2.1 p.2.2.2.1 (X p.1).env) p.2.2.2.2.2
theorem CxF.blk (c : CxF X K) : CxF (blk X scope) K := ⟨fun p => c.calm p.1, fun p => c.nd p.1, fun p => c.un p.1, fun p => c.kk p.1⟩
theorem CxG.blk {k : Nat} (c : CxG X K k) : CxG (FM.blk X scope) K k := ⟨c.toCxF.blk, fun p => c.gd p.1, fun p => c.rm p.1⟩
theorem mf_comp (c : CxF X K) (hi : MI X K EW tg iter mi w) (ok : ∀ i, BlkOk (X i).N (X i).env.scope scope own)
    (hg : MG (blk X scope) K tg mg ks w) (ht : MTs (blk X scope) K NoX ifs mt) (he : ME (blk X scope) K NoX elt me)
    (hk : ∀ k ∈ ks, k ∈ own.map (·.2) := by decide) (hs : ∀ i x, foldedSetIterable iter (X i).env x = Pure.pure x := by intro _ _; rfl) :
    MF X K EW (.ListComp elt [⟨tg, iter, ifs, 0⟩] scope pos) (fComp mi (own.map (·.2)) mg mt me) := by
  obtain ⟨wi, pi, si⟩ := hi.ex
  obtain ⟨tg', pg, sg⟩ := hg.ex
  obtain ⟨tt, pt, st⟩ := ht.ex
  obtain ⟨te, pe, se⟩ := he.ex
  exact ⟨⟨_, fun i => pe_lc (c.calm i) (c.nd i) (pi i) (ok i) (fun s H C cl fp => pg (i, s, H, C, cl, fp)) (fun s H C cl fp => pt (i, s, H, C, cl, fp)) (fun s H C cl fp => pe (i, s, H, C, cl, fp)) (hs i),
    fun σ H ρ μ s Q hr m h => comp_snd (own.map (·.2)) si sg st se hk hr m h⟩⟩
/-- name = [..] on one line, dead or alive -/
theorem ms_setLcD {i : Nat} {y : PySem.Str} {py spos : Pos} (c : CxF X K) (hy : ∀ j, (X j).N[i]? = some y) (hyl : ∀ j, (X j).env.scope.names.lookup y = some .local)
    (hsw : ∀ j, swapsWith (.ListComp elt [⟨tg, iter, ifs, 0⟩] scope pos) (some (.Name y py)) spos.line (X j).env = Pure.pure true)
    (hi : MI X K EW tg iter mi w) (ok : ∀ i, BlkOk (X i).N (X i).env.scope scope own)
    (hg : MG (blk X scope) K tg mg ks w) (ht : MTs (blk X scope) K NoX ifs mt) (he : ME (blk X scope) K NoX elt me)
    (hk : ∀ k ∈ ks, k ∈ own.map (·.2) := by decide) (hs : ∀ i x, foldedSetIterable iter (X i).env x = Pure.pure x := by intro _ _; rfl) :
    MS X K EW (.Assign [.Name y py] (.ListComp elt [⟨tg, iter, ifs, 0⟩] scope pos) spos) (sAsg (eDead (fComp mi (own.map (·.2)) mg mt me)) (FM.gName i)) := by
  obtain ⟨wi, pi, si⟩ := hi.ex
  obtain ⟨tg', pg, sg⟩ := hg.ex
  obtain ⟨tt, pt, st⟩ := ht.ex
  obtain ⟨te, pe, se⟩ := he.ex
  refine ⟨⟨_, fun j => ps_setLc (c.calm j) (c.nd j) (hy j) (hyl j) (hsw j) (pi j) (ok j) (fun s H C cl fp => pg (j, s, H, C, cl, fp)) (fun s H C cl fp => pt (j, s, H, C, cl, fp)) (fun s H C cl fp => pe (j, s, H, C, cl, fp)) (hs j), fun σ H ρ μ s D hr m h => ?_⟩⟩
  refine dead_snd (fun σ H ρ μ s Q hr m h => comp_snd (own.map (·.2)) si sg st se hk hr m h) σ H ρ μ s _ hr m (wp_mono (wp_seq h) (fun v s1 h1 => ?_) fun _ _ q => q)
  intro x H1 μ1 g1 m1 r1
  exact h1 _ H1 μ1 g1 m1 ((hr.mono g1 m).set i r1)
theorem ms_setLcL {i : Nat} {y : PySem.Str} {py spos : Pos} (c : CxF X K) (hy : ∀ j, (X j).N[i]? = some y) (hyl : ∀ j, (X j).env.scope.names.lookup y = some .local)
    (hsw : ∀ j, swapsWith (.ListComp elt [⟨tg, iter, ifs, 0⟩] scope pos) (some (.Name y py)) spos.line (X j).env = Pure.pure true)
    (hi : MI X K EW tg iter mi w) (ok : ∀ i, BlkOk (X i).N (X i).env.scope scope own)
    (hg : MG (blk X scope) K tg mg ks w) (ht : MTs (blk X scope) K NoX ifs mt) (he : ME (blk X scope) K NoX elt me)
    (hk : ∀ k ∈ ks, k ∈ own.map (·.2) := by decide) (hs : ∀ i x, foldedSetIterable iter (X i).env x = Pure.pure x := by intro _ _; rfl) :
    MS X K EW (.Assign [.Name y py] (.ListComp elt [⟨tg, iter, ifs, 0⟩] scope pos) spos) (sAsg (eLive (fComp mi (own.map (·.2)) mg mt me)) (FM.gName i)) := by
  obtain ⟨wi, pi, si⟩ := hi.ex
  obtain ⟨tg', pg, sg⟩ := hg.ex
  obtain ⟨tt, pt, st⟩ := ht.ex
  obtain ⟨te, pe, se⟩ := he.ex
  refine ⟨⟨_, fun j => ps_setLc (c.calm j) (c.nd j) (hy j) (hyl j) (hsw j) (pi j) (ok j) (fun s H C cl fp => pg (j, s, H, C, cl, fp)) (fun s H C cl fp => pt (j, s, H, C, cl, fp)) (fun s H C cl fp => pe (j, s, H, C, cl, fp)) (hs j), fun σ H ρ μ s D hr m h => ?_⟩⟩
  refine live_snd (fun σ H ρ μ s Q hr m h => comp_snd (own.map (·.2)) si sg st se hk hr m h) σ H ρ μ s _ hr m (wp_mono (wp_seq h) (fun v s1 h1 => ?_) fun _ _ q => q)
  intro x H1 μ1 g1 m1 r1
  exact h1 _ H1 μ1 g1 m1 ((hr.mono g1 m).set i r1)
end
/-! ### other new lists -/
section
variable {ι : Type} {X : ι → Cx} {K : PySem.W.Frag} {EW : XK} {a b e o i : Expr} {es : List Expr} {ma mb mo mi : Ex} {mas : Ax} {mf : Fx} {pos p apos cpos : Pos}
theorem mf_lst (ha : MA X K EW es mas) (hl : es.length ≤ sizeLine := by decide) : MF X K EW (.List es pos) (fLst mas) := by
  obtain ⟨ta, pa, sa⟩ := ha.ex
  refine ⟨⟨_, fun i => pe_lst (pa i), fun σ H ρ μ s Q hr m h => ?_⟩⟩
  refine sa σ H ρ μ s _ hr m (wp_mono (wp_len h) (fun v s1 h1 => ?_) fun _ _ q => q)
  obtain ⟨e1, h1⟩ := h1
  intro x H1 μ1 g1 m1 r1
  have el : x.length ≤ sizeLine := by rw [r1.length, ha.len _ _ _ _ e1]; exact hl
  exact ⟨el, fs_new h1 g1 m1 el r1⟩
theorem rangeV_rep {H : Hp} {μ : Mu} (lo : Int) : ∀ (l : List Nat), RepAll K H μ (l.map fun (i : Nat) => Val.int (lo + (i : Int))) (l.map fun i => V.int (lo + (i : Nat)))
  | [] => .nil
  | n :: l => .cons rep_of_int (rangeV_rep lo l)
theorem mf_range (c : CxF X K) (hg : ∀ i, Gl (X i) "list") (hm : ∀ i, (X i).mg "list" = none) (hg2 : ∀ i, Gl (X i) "range") (hm2 : ∀ i, (X i).mg "range" = none) (ha : ME X K EW a ma)
    {p2 pos2 : Pos} (hs : ∀ i, starEach [a] (X i).env = (false, eval a (X i).env) :: starEach [] (X i).env := by intro _; rfl)
    (hs2 : ∀ i, starEach [.Call (.Name "range" p2) [a] [] pos2] (X i).env = (false, eval (.Call (.Name "range" p2) [a] [] pos2) (X i).env) :: starEach [] (X i).env := by intro _; rfl) :
    MF X K EW (.Call (.Name "list" p) [.Call (.Name "range" p2) [a] [] pos2] [] pos) (fRange ma) := by
  obtain ⟨ta, pa, sa⟩ := ha.ex
  refine ⟨⟨_, fun i => pe_listRg (c.calm i) (hg i) (hm i) (prg_1 (hg2 i) (hm2 i) (pa i) (hs i)) (hs2 i), fun σ H ρ μ s Q hr m h => ?_⟩⟩
  refine sa σ H ρ μ s _ hr m (wp_mono (wp_bind h) (fun v s1 h1 => ?_) fun _ _ q => q)
  intro x H1 μ1 g1 m1 r1
  split at h1
  · rename_i n
    split at h1
    · rename_i hn
      have hz : (sizeLine : Int) = 16777216 := by rw [show sizeLine = 16777216 from rfl]; rfl
      refine ⟨n, rep_int r1, ⟨by omega, by omega, by omega, by omega, by omega⟩, ?_⟩
      have e : (rangeV 0 n.toNat) = (List.range n.toNat).map fun (i : Nat) => Val.int (0 + (i : Int)) := rfl
      have e2 : rgV 0 n = (List.range n.toNat).map fun i => V.int (0 + (i : Nat)) := by
        unfold rgV; rw [Int.sub_zero]
      rw [e2]
      refine fs_new h1 g1 m1 ?_ (rangeV_rep 0 _)
      rw [List.length_map, List.length_range]; omega
    · exact False.elim h1
  · exact False.elim h1
theorem mf_list (c : CxF X K) (hg : ∀ i, Gl (X i) "list") (hm : ∀ i, (X i).mg "list" = none) (ha : MA X K EW [a] (aCons ma aNil)) (he : ∀ i, starEach [a] (X i).env = (false, eval a (X i).env) :: starEach [] (X i).env := by intro _; rfl) (hpl : ∀ i, (backTo pos (starEach [] (X i).env)).any (·.1) = false := by intro _; rfl) :
    MF X K EW (.Call (.Name "list" p) [a] [] pos) (fList ma) := by
  obtain ⟨ta, pa, sa⟩ := ha.ex
  refine ⟨⟨tCB (fun xs H Q => ∃ p ys, xs = [.ref p] ∧ (SqL K H p ys ∨ SqT K H p ys) ∧ ∀ l, H l = none → Q (.ref l) (upd H l (.lst ys))) ta,
    fun i => c.kk i ▸ pe_callTy call_list_of (hg i) (hm i) (by decide +kernel) (pa i) (he := he i) (hpl := hpl i), fun σ H ρ μ s Q hr m h => ?_⟩⟩
  have h2 : ((aCons ma aNil) ρ s).wp (fun xs s1 => ∃ x ys, xs = [x] ∧ asQ s1 x = some ys ∧ FsP K μ H Q ys s1) (XP K μ H EW) := by
    unfold aCons
    have h := wp_bind h
    cases e1 : ma ρ s with
    | ok x s1 =>
      rw [e1] at h
      cases e2 : asQ s1 x with
      | none => simp only [R.wp, e2] at h
      | some ys =>
        simp only [R.wp, e2] at h
        exact ⟨x, ys, rfl, e2, h⟩
    | ex e s1 => rw [e1] at h; exact h
    | no => rw [e1] at h; exact h
  refine sa σ H ρ μ s _ hr m (wp_mono h2 (fun v s1 h1 => ?_) fun _ _ q => q)
  obtain ⟨x, ys, ev, ea, h1⟩ := h1
  intro xs H1 μ1 g1 m1 r1
  rw [ev] at r1
  obtain ⟨y, ey, ry⟩ := all1 r1
  obtain ⟨q, vs, eq, hq, hl, hrr⟩ := rep_asQ m1 ry ea
  exact ⟨q, vs, by rw [ey, eq], hq, fs_new h1 g1 m1 hl hrr⟩
/-- tuple(a new list) -/
theorem tup_snd {ta : TE} {mf : Fx} {σ : L2.St} {H : Hp} {ρ : FM.Env} {μ : Mu} {s : S} {Q : VK} (m : Mem K H μ s) (sa : ∀ Q, (mf ρ s).wp (FsP K μ H Q) (XP K μ H EW) → ta σ H Q) (h : (eTupleF mf ρ s).wp (VP K μ H Q) (XP K μ H EW)) : tCB (rTupOf K) (tCons ta tNil) σ H Q := by
  refine sa _ (wp_mono (wp_bind h) (fun v s1 h1 => ?_) fun _ _ q => q)
  intro q vs H' μ' g m' hq hh e hl r
  have off : Off μ' q := m'.offHid hh
  refine ⟨q, vs, rfl, .inl ⟨.of e, fun l u hl' tu => ?_⟩⟩
  have g2 : Grow μ H μ' H' := g.unhide (m.off hq)
  have g3 : Grow μ' H' μ' (upd H' l u) := m'.unhide.new hl'
  refine h1 _ _ μ' (g2.trans g3) (m'.unhide.upd_new hl') ?_
  unfold Rep
  exact ⟨l, vs, rfl, .of upd_same tu, hl, RepAll.mono g3 m'.unhide _ _ r.unhide⟩
theorem me_tupleF (c : CxF X K) (hg : ∀ i, Gl (X i) "tuple") (hm : ∀ i, (X i).mg "tuple" = none) (hf : MF X K EW a mf) (hs : ∀ i, starEach [a] (X i).env = (false, eval a (X i).env) :: starEach [] (X i).env := by intro _; rfl) (hpl : ∀ i, (backTo pos (starEach [] (X i).env)).any (·.1) = false := by intro _; rfl) :
    ME X K EW (.Call (.Name "tuple" p) [a] [] pos) (eTupleF mf) := by
  obtain ⟨ta, pa, sa⟩ := hf.ex
  refine ⟨⟨tCB (rTupOf K) (tCons ta tNil),
    fun i => c.kk i ▸ pe_callTy call_tupF (hg i) (hm i) (by decide +kernel) (pa_cons (pa i) pa_nil (hs i)) (he := hs i) (hpl := hpl i), fun σ H ρ μ s Q hr m h => ?_⟩⟩
  refine sa σ H ρ μ s _ hr m (wp_mono (wp_bind h) (fun v s1 h1 => ?_) fun _ _ q => q)
  intro q vs H' μ' g m' hq hh e hl r
  have off : Off μ' q := m'.offHid hh
  refine ⟨q, vs, rfl, .inl ⟨.of e, fun l u hl' tu => ?_⟩⟩
  have g2 : Grow μ H μ' H' := g.unhide (m.off hq)
  have g3 : Grow μ' H' μ' (upd H' l u) := m'.unhide.new hl'
  refine h1 _ _ μ' (g2.trans g3) (m'.unhide.upd_new hl') ?_
  unfold Rep
  exact ⟨l, vs, rfl, .of upd_same tu, hl, RepAll.mono g3 m'.unhide _ _ r.unhide⟩
theorem ns_of {s : S} {v : Val} {xs : List Val} (e : asLn s v = some xs) : ∀ ys, v ≠ .scr ys := by
  intro ys h
  rw [h] at e
  cases e
theorem mf_add (ha : ME X K EW a ma) (hb : ME X K EW b mb) : MF X K EW (.BinOp a .Add b pos) (fAdd ma mb) := by
  obtain ⟨ta, pa, sa⟩ := ha.ex
  obtain ⟨tb, pb, sb⟩ := hb.ex
  refine ⟨⟨_, fun i => pe_op op_cat (pa i) (pb i), fun σ H ρ μ s Q hr m h => ?_⟩⟩
  refine sa σ H ρ μ s _ hr m (wp_mono (wp_bind h) (fun v s1 h1 => ?_) fun _ _ q => q)
  intro x H1 μ1 g1 m1 r1
  refine sb σ H1 ρ μ1 s1 _ (hr.mono g1 m) m1 (wp_mono (wp_bind h1) (fun u s2 h2 => ?_) fun _ _ q => q.mono g1)
  intro y H2 μ2 g2 m2 r2
  split at h2
  · rename_i xs ys e1 e2
    split at h2
    · rename_i hl
      obtain ⟨q1, vs, eq1, hq1, l1, rr1⟩ := rep_asL' m2 (Rep.mono g2 m1 v x r1) (asLn_asL e1) (ns_of e1)
      obtain ⟨q2, ws, eq2, hq2, l2, rr2⟩ := rep_asL' m2 r2 (asLn_asL e2) (ns_of e2)
      refine ⟨q1, q2, vs, ws, eq1, eq2, hq1, hq2, by rw [rr1.length, rr2.length]; exact hl, fs_new h2 (g1.trans g2) m2 (by rw [List.length_append, rr1.length, rr2.length]; exact hl) (rr1.append rr2)⟩
    · exact False.elim h2
  · exact False.elim h2
theorem repRep {H : Hp} {μ : Mu} {xs : List Val} {vs : List V} (h : RepAll K H μ xs vs) : ∀ n : Nat, RepAll K H μ (List.replicate n xs).flatten (List.replicate n vs).flatten
  | 0 => .nil
  | n + 1 => by
    simp only [List.replicate_succ, List.flatten_cons]
    exact h.append (repRep h n)
theorem mf_mul (ha : ME X K EW a ma) (hb : ME X K EW b mb) : MF X K EW (.BinOp a .Mult b pos) (fMul ma mb) := by
  obtain ⟨ta, pa, sa⟩ := ha.ex
  obtain ⟨tb, pb, sb⟩ := hb.ex
  refine ⟨⟨_, fun i => pe_op op_rep (pa i) (pb i), fun σ H ρ μ s Q hr m h => ?_⟩⟩
  refine sa σ H ρ μ s _ hr m (wp_mono (wp_bind h) (fun v s1 h1 => ?_) fun _ _ q => q)
  intro x H1 μ1 g1 m1 r1
  refine sb σ H1 ρ μ1 s1 _ (hr.mono g1 m) m1 (wp_mono (wp_bind h1) (fun u s2 h2 => ?_) fun _ _ q => q.mono g1)
  intro y H2 μ2 g2 m2 r2
  split at h2
  · rename_i xs j e1
    split at h2
    · rename_i hl
      obtain ⟨q1, vs, eq1, hq1, l1, rr1⟩ := rep_asL' m2 (Rep.mono g2 m1 v x r1) (asLn_asL e1) (ns_of e1)
      have el : (List.replicate j.toNat vs).flatten.length = vs.length * j.toNat := by
        rw [List.length_flatten, List.map_replicate, List.sum_replicate_nat, Nat.mul_comm]
      exact ⟨q1, j, vs, eq1, rep_int r2, hq1, hl.1, hl.2.1, by rw [rr1.length]; exact hl.2.2, fs_new h2 (g1.trans g2) m2 (by rw [el, rr1.length]; exact hl.2.2) (repRep rr1 _)⟩
    · exact False.elim h2
  · exact False.elim h2
end
end FM

set_option autoImplicit false
/-! lists that change; methods; repr; sorted -/
namespace FM
open PySem PySem.Spec PyProof.Rows L2
variable [Tbl]
section
variable {K : PySem.W.Frag} {H : Hp} {μ : Mu} {s : S}
theorem flat_lk : ∀ {l : List (List Addr)} {f n : Nat} {a : Addr}, lk l f n = some a → a ∈ l.flatten
  | l, f, n, a, h => by
    obtain ⟨fr, hf, ha⟩ := lk_mem h
    exact List.mem_flatten.mpr ⟨fr, hf, ha⟩
theorem lk_inj : ∀ {l : List (List Addr)} {f n k m : Nat} {a : Addr}, l.flatten.Nodup → lk l f n = some a → lk l k m = some a → f = k ∧ n = m
  | [], _, _, _, _, _, _, h, _ => by simp [lk] at h
  | fr :: r, f, n, k, m, a, nd, h1, h2 => by
    rw [List.flatten_cons, List.nodup_append] at nd
    obtain ⟨n1, n2, n3⟩ := nd
    unfold lk at h1 h2
    split at h1
    · rename_i ef
      split at h2
      · rename_i ek
        refine ⟨by rw [ef, ek], ?_⟩
        obtain ⟨l1, e1⟩ := List.getElem?_eq_some_iff.mp h1
        obtain ⟨l2, e2⟩ := List.getElem?_eq_some_iff.mp h2
        exact (List.getElem_inj n1).mp (e1.trans e2.symm)
      · exact (n3 a (List.mem_of_getElem? h1) a (flat_lk h2) rfl).elim
    · split at h2
      · exact (n3 a (List.mem_of_getElem? h2) a (flat_lk h1) rfl).elim
      · exact lk_inj n2 h1 h2
theorem lk_up : ∀ {s : S} {k n : Nat} {c c' : Cell} {f m : Nat}, lk s k n = some c' → lk (up s k n c) f m = if f = k ∧ m = n then some c else lk s f m
  | [], _, _, _, _, _, _, h => by simp [lk] at h
  | fr :: r, k, n, c, c', f, m, h => by
    unfold lk at h
    unfold up
    split at h
    · rename_i ek
      rw [if_pos ek]
      unfold lk
      by_cases ef : f = r.length
      · rw [if_pos ef, if_pos ef]
        by_cases em : m = n
        · subst em
          rw [if_pos ⟨ef.trans ek.symm, rfl⟩]
          exact List.getElem?_set_self (List.getElem?_eq_some_iff.mp h).1
        · rw [if_neg (fun q => em q.2)]
          exact List.getElem?_set_ne (Ne.symm em)
      · rw [if_neg ef, if_neg ef, if_neg (fun q => ef (q.1.trans ek))]
    · rename_i ek
      rw [if_neg ek]
      have hl : ∀ (s : S) (k n : Nat) (c : Cell), (up s k n c).length = s.length := by
        intro s
        induction s with
        | nil => intros; rfl
        | cons a b ih =>
          intro k n c
          unfold up
          split
          · rfl
          · simp [ih]
      unfold lk
      rw [hl]
      by_cases ef : f = r.length
      · rw [if_pos ef, if_pos ef, if_neg (fun q => ek (q.1.symm.trans ef))]
      · rw [if_neg ef, if_neg ef]
        exact lk_up h
theorem up_shape : ∀ (s : S) (k n : Nat) (c : Cell), (up s k n c).map List.length = s.map List.length
  | [], _, _, _ => rfl
  | fr :: r, k, n, c => by
    unfold up
    split
    · simp
    · simp [up_shape r k n c]
theorem up_length (s : S) (k n : Nat) (c : Cell) : (up s k n c).length = s.length := by
  have := congrArg List.length (up_shape s k n c); simpa using this
/-- a live list is changed -/
theorem Mem.upd (m : Mem K H μ s) {k n : Nat} {a : Addr} {xs ys : List Val} {ws : List V} (e1 : lk μ.fr k n = some a) (e2 : lk s k n = some (.lst xs)) (hl : ws.length ≤ sizeLine) (hr : RepAll K H μ ys ws) (hb : belowAll (k + 1) ys = true) :
    Mem K (upd H a (.lst ws)) μ (up s k n (.lst ys)) ∧ Grow μ H μ (upd H a (.lst ws)) := by
  obtain ⟨fr, hfr, ha⟩ := lk_mem e1
  have no : ¬ Off μ a := fun q => q.1 fr hfr ha
  have hv := m.live hfr ha
  have nh : ¬ μ.hid a := m.sep fr hfr a ha
  refine ⟨⟨by rw [up_shape]; exact m.shp, m.nd, m.sep, fun f j b c q1 q2 => ?_, fun f j c q2 => ?_, fun b hb' => ?_, let ⟨us, e⟩ := hv; tabs_lst m.tb e⟩, ⟨[], exts_nil.symm, by simp⟩, fun _ h => .inr h, fun _ h => h, fun b o ho e _ => ?_, fun f hf b hb' => ?_, fun b hb' => ?_, fun b ps e => ⟨ps, by obtain ⟨us, e'⟩ := hv; rw [upd_ne (fun z => by rw [z, e'] at e; cases e)]; exact e⟩⟩
  · rw [lk_up e2] at q2
    by_cases eq : f = k ∧ j = n
    · rw [if_pos eq] at q2
      cases q2
      rw [eq.1, eq.2, e1] at q1
      cases q1
      exact ⟨ws, upd_same, hl, RepAll.upd no hv _ _ hr⟩
    · rw [if_neg eq] at q2
      have ne : b ≠ a := fun z => by
        rw [z] at q1
        exact eq (lk_inj m.nd q1 e1)
      have q := m.cel f j b c q1 q2
      cases c with
      | lst zs =>
        obtain ⟨us, e, hl, hr⟩ := q
        exact ⟨us, by rw [upd_ne ne]; exact e, hl, RepAll.upd no hv _ _ hr⟩
      | dct _ _ => exact q.elim
  · rw [lk_up e2] at q2
    by_cases eq : f = k ∧ j = n
    · rw [if_pos eq] at q2
      cases q2
      rw [eq.1]; exact hb
    · rw [if_neg eq] at q2
      exact m.bel f j c q2
  · have ne : b ≠ a := fun z => nh (by rw [← z]; exact hb')
    rw [upd_ne ne]; exact m.hd b hb'
  · rw [upd_ne (fun z => no (by rw [← z]; exact ho))]; exact e
  · by_cases z : b = a
    · exact ⟨_, by rw [z]; exact upd_same⟩
    · obtain ⟨us, e⟩ := m.live hf hb'
      exact ⟨_, by rw [upd_ne z]; exact e⟩
  · exact upd_ne (fun z => nh (by rw [← z]; exact hb'))
theorem belowAll_append : ∀ {k : Nat} {xs ys : List Val}, belowAll k (xs ++ ys) = (belowAll k xs && belowAll k ys)
  | _, [], _ => by simp [belowAll]
  | k, x :: xs, ys => by
    simp only [List.cons_append, belowAll, belowAll_append, Bool.and_assoc]
theorem belowAll_mem {k : Nat} : ∀ {xs : List Val}, belowAll k xs = true ↔ ∀ x ∈ xs, below k x = true
  | [] => by simp [belowAll]
  | x :: xs => by
    simp only [belowAll, Bool.and_eq_true, belowAll_mem, List.mem_cons, forall_eq_or_imp]
theorem below_mono : ∀ {k j : Nat} (v : Val), k ≤ j → below k v = true → below j v = true := by
  intro k j v hkj
  refine Val.rec (motive_1 := fun v => below k v = true → below j v = true) (motive_2 := fun vs => belowAll k vs = true → belowAll j vs = true) ?_ ?_ ?_ ?_ ?_ ?_ ?_ ?_ ?_ ?_ ?_ v <;> intros <;> simp_all [below, belowAll]
  omega
end

/-- a method that changes a live list -/
def ChS {ι : Type} (X : ι → Cx) (K : PySem.W.Frag) (id : String) (f : S → List Val → List Val → Option (List Val)) : Prop :=
  ∃ r, (∀ i, MtR (X i) id r) ∧
    (∀ (l : Addr) (args : List V) (H : Hp) (μ : Mu) (s : S) (as xs ys : List Val) (vs : List V), H l = some (.lst vs) → vs.length ≤ sizeLine → RepAll K H μ xs vs → RepAll K H μ as args → f s as xs = some ys →
      ∃ ws, RepAll K H μ ys ws ∧ ws.length ≤ sizeLine ∧ ∀ Q : VK, Q .non (upd H l (.lst ws)) → r (.ref l) args H Q) ∧
    ∀ (s : S) (k : Nat) (as xs ys : List Val), f s as xs = some ys → belowAll k as = true → belowAll k xs = true → belowAll k ys = true
section
variable {ι : Type} {X : ι → Cx} {K : PySem.W.Frag} {EW : XK} {a b e o i : Expr} {es : List Expr} {ma mb mo me mi : Ex} {mas : Ax} {mf : Fx} {pos p apos cpos : Pos} {name : PySem.Str} {id : String}
theorem chg_snd {H : Hp} {μ : Mu} {s : S} {v : Val} {x : V} {as : List Val} {args : List V} {f : List Val → Option (List Val)} {Q : VK} {E : Exn → S → Prop} {r : V → List V → Hp → VK → Prop} (m : Mem K H μ s) (rx : Rep K H μ v x) (ra : belowAll μ.fr.length as = true)
    (hf : ∀ (l : Addr) (xs ys : List Val) (vs : List V), H l = some (.lst vs) → vs.length ≤ sizeLine → RepAll K H μ xs vs → f xs = some ys → ∃ ws, RepAll K H μ ys ws ∧ ws.length ≤ sizeLine ∧ ∀ Q : VK, Q .non (upd H l (.lst ws)) → r (.ref l) args H Q)
    (hb : ∀ (k : Nat) (xs ys : List Val), f xs = some ys → belowAll k as = true → belowAll k xs = true → belowAll k ys = true)
    (h : (chg s v f as).wp (VP K μ H Q) E) : (∃ l vs, x = .ref l ∧ H l = some (.lst vs)) ∧ r x args H Q := by
  unfold chg at h
  split at h
  · rename_i k n
    unfold Rep at rx
    obtain ⟨l, ex, el⟩ := rx
    split at h
    · rename_i xs e2
      split at h
      · rename_i ys ey
        split at h
        · rename_i hc
          obtain ⟨vs, hv, hl, hrr⟩ := m.cel k n l _ el e2
          obtain ⟨ws, hw, hwl, hq⟩ := hf l xs ys vs hv hl hrr ey
          have b1 : belowAll (k + 1) as = true := by
            rcases hc with hc | hc
            · have q := ra
              rw [m.len, ← hc] at q
              exact q
            · exact hc
          obtain ⟨m2, g2⟩ := m.upd el e2 hwl hw (hb (k + 1) xs ys ey b1 (m.bel k n _ e2))
          rw [ex]
          exact ⟨⟨l, vs, rfl, hv⟩, hq Q (h _ _ μ g2 m2 rep_of_non)⟩
        · exact h.elim
      · exact h.elim
    · exact h.elim
  · exact h.elim
theorem me_chg {f : S → List Val → List Val → Option (List Val)} (o' : ChS X K id f) (slot : Slot "list" name id) (hty : typeOf (.builtin id) = Pure.pure (.type "method_descriptor")) (ho : ME X K EW o mo) (ha : MA X K EW (e :: es) mas)
    (hbase : ∀ i, attributeBase o name (X i).env (eval o (X i).env) = eval o (X i).env := by intro _; rfl)
    (hfew : ∀ i, ((backTo cpos (starEach (e :: es) (X i).env)).all (fun x => !x.1) && (backToKw cpos (keywordEach [] (X i).env)).all (fun x => x.1.isSome)
      && decide ((e :: es).length + ([] : List Keyword).length + (if ([] : List Keyword).isEmpty then 0 else 1) < 30)) = true := by intro _; rfl)
    (hline : (apos.endLine == cpos.line) = true := by rfl) (hs : ∀ i, starEach (e :: es) (X i).env = (false, eval e (X i).env) :: starEach es (X i).env := by intro _; rfl) (hplain : ∀ i, (backTo cpos (starEach es (X i).env)).any (·.1) = false := by intro _; rfl)
    (c : CxF X K) : ME X K EW (.Call (.Attribute o name apos) (e :: es) [] cpos) (eChg f mo mas) := by
  obtain ⟨to', po, so⟩ := ho.ex
  obtain ⟨ta, pa, sa⟩ := ha.ex
  obtain ⟨r, pr, sr, sb⟩ := o'
  refine ⟨⟨tBM K "list" r to' ta, fun i => c.kk i ▸ pe_bm PySem.F.plainAttrs_list slot hty (pr i) (po i) (pa i) (hbase := hbase i) (hfew := hfew i) (hline := hline) (hs := hs i) (hplain := hplain i), fun σ H ρ μ s Q hr m h => ?_⟩⟩
  refine so σ H ρ μ s _ hr m (wp_mono (wp_bind h) (fun v s1 h1 => ?_) fun _ _ q => q)
  intro x H1 μ1 g1 m1 r1
  split at h1
  · rename_i hL
    obtain ⟨zs, ez⟩ := Option.isSome_iff_exists.mp hL
    obtain ⟨l, vs, ex, hq, _, _⟩ := rep_asL m1 r1 ez
    refine ⟨by rw [ex]; exact .inl ⟨rfl, vs, hq⟩, ?_⟩
    refine sa σ H1 ρ μ1 s1 _ (hr.mono g1 m) m1 (wp_mono (wp_bind h1) (fun as s2 h2 => ?_) fun _ _ q => q.mono g1)
    intro xs H2 μ2 g2 m2 r2
    have h3 : (chg s2 v (f s2 as) as).wp (VP K μ2 H2 Q) (XP K μ2 H2 EW) := wp_mono h2 (fun _ _ q => q.mono (g1.trans g2)) fun _ _ q => q.mono (g1.trans g2)
    exact (chg_snd m2 (Rep.mono g2 m1 v x r1) (repAll_below _ _ r2) (fun l xs' ys vs hv hl hx hy => sr l xs H2 μ2 s2 as xs' ys vs hv hl hx r2 hy) (fun k xs' ys hy b1 b2 => sb s2 k as xs' ys hy b1 b2) h3).2
  · exact False.elim h1
theorem ch_append : ChS X K "list.append" cAppend := by
  refine ⟨_, fun _ => mt_append, fun l args H μ s as xs ys vs hv hvl hx ha e => ?_, fun s k as xs ys e b1 b2 => ?_⟩
  · unfold cAppend at e
    split at e
    · rename_i y _
      split at e
      · rename_i hl
        cases e
        obtain ⟨w, ew, rw'⟩ := all1 ha
        exact ⟨vs ++ [w], hx.append (.one rw'), by rw [List.length_append, hx.length]; simp; omega, fun Q q => ⟨l, vs, w, rfl, ew, hv, by rw [hx.length]; exact hl, q⟩⟩
      · cases e
    · cases e
  · unfold cAppend at e
    split at e
    · split at e
      · cases e
        rw [belowAll_append, b2, b1]; rfl
      · cases e
    · cases e
theorem ch_insert : ChS X K "list.insert" cInsert := by
  refine ⟨_, fun _ => mt_insert, fun l args H μ s as xs ys vs hv hvl hx ha e => ?_, fun s k as xs ys e b1 b2 => ?_⟩
  · unfold cInsert at e
    split at e
    · rename_i n y
      split at e
      · rename_i hl
        cases e
        obtain ⟨w1, w2, ew, r1, r2⟩ := all2 ha
        refine ⟨vs.take n.toNat ++ [w2] ++ vs.drop n.toNat, ((hx.take _).append (.one r2)).append (hx.drop _), ?_, fun Q q => ⟨l, vs, n, w2, rfl, by rw [ew, rep_int r1], hv, by rw [hx.length]; exact hl.1, hl.2.1, hl.2.2, q⟩⟩
        have := hx.length
        have := hl.1
        simp only [List.length_append, List.length_take, List.length_drop, List.length_cons, List.length_nil]
        omega
      · cases e
    · cases e
  · unfold cInsert at e
    split at e
    · rename_i n y
      split at e
      · cases e
        simp only [belowAll, Bool.and_eq_true] at b1
        rw [belowAll_mem] at b2 ⊢
        intro x hx
        rcases List.mem_append.mp hx with hx | hx
        · rcases List.mem_append.mp hx with hx | hx
          · exact b2 x (List.mem_of_mem_take hx)
          · rw [List.mem_singleton.mp hx]; exact b1.2.1
        · exact b2 x (List.mem_of_mem_drop hx)
      · cases e
    · cases e
theorem idxOf_first {k : Int} : ∀ {ns : List Int}, k ∈ ns → ns[ns.idxOf k]? = some k ∧ ∀ m : Nat, m < ns.idxOf k → ns[m]? ≠ some k := by
  intro ns hk
  have hlt := List.idxOf_lt_length_iff.mpr hk
  refine ⟨by rw [List.getElem?_eq_getElem hlt, List.getElem_idxOf hlt], fun m hm e => ?_⟩
  obtain ⟨hl, ee⟩ := List.getElem?_eq_some_iff.mp e
  exact PySem.SeqAt.lt_idxOf_ne hm hl ee
theorem ch_remove : ChS X K "list.remove" cRemove := by
  refine ⟨_, fun _ => mt_remove, fun l args H μ s as xs ys vs hv hvl hx ha e => ?_, fun s k as xs ys e b1 b2 => ?_⟩
  · unfold cRemove at e
    split at e
    · rename_i k
      cases en : intsOf xs with
      | none => rw [en] at e; cases e
      | some ns =>
        rw [en] at e
        simp only [Option.bind_some, remI] at e
        split at e
        · rename_i hk
          cases e
          obtain ⟨ev, exs⟩ := intsOf_rep hx en
          obtain ⟨w, ew, rw'⟩ := all1 ha
          obtain ⟨f1, f2⟩ := idxOf_first hk
          refine ⟨(ns.eraseIdx (ns.idxOf k)).map V.int, repInts _, ?_, fun Q q => ⟨l, ns, k, ns.idxOf k, rfl, by rw [ew, rep_int rw'], by rw [hv, ev], f1, f2, q⟩⟩
          have := congrArg List.length ev
          rw [List.length_map] at this ⊢
          exact Nat.le_trans (List.length_eraseIdx_le _ _) (by omega)
        · cases e
    · cases e
  · unfold cRemove at e
    split at e
    · rename_i k'
      cases en : intsOf xs with
      | none => rw [en] at e; cases e
      | some ns =>
        rw [en] at e
        cases er : remI k' ns with
        | none => simp only [Option.bind_some, er] at e; cases e
        | some ms =>
          simp only [Option.bind_some, er] at e
          cases e
          rw [belowAll_mem]
          intro x hx
          obtain ⟨i, _, ei⟩ := List.mem_map.mp hx
          rw [← ei]
          simp [below]
    · cases e
/-- xs.extend(a new list) -/
theorem me_extF (ho : ME X K EW o mo) (hf : MF X K EW e mf)
    (hbase : ∀ i, attributeBase o "extend" (X i).env (eval o (X i).env) = eval o (X i).env := by intro _; rfl)
    (hfew : ∀ i, ((backTo cpos (starEach [e] (X i).env)).all (fun x => !x.1) && (backToKw cpos (keywordEach [] (X i).env)).all (fun x => x.1.isSome)
      && decide ([e].length + ([] : List Keyword).length + (if ([] : List Keyword).isEmpty then 0 else 1) < 30)) = true := by intro _; rfl)
    (hline : (apos.endLine == cpos.line) = true := by rfl) (hs : ∀ i, starEach [e] (X i).env = (false, eval e (X i).env) :: starEach [] (X i).env := by intro _; rfl) (hplain : ∀ i, (backTo cpos (starEach [] (X i).env)).any (·.1) = false := by intro _; rfl)
    (c : CxF X K) : ME X K EW (.Call (.Attribute o "extend" apos) [e] [] cpos) (eExtend mo mf) := by
  obtain ⟨to', po, so⟩ := ho.ex
  obtain ⟨ta, pa, sa⟩ := hf.ex
  refine ⟨⟨tBM K "list" rExtend to' (tCons ta tNil), fun i => c.kk i ▸ pe_bm PySem.F.plainAttrs_list PySem.F.slot_list_extend PySem.F.type_list_extend mt_extend (po i) (pa_cons (pa i) pa_nil (hs i)) (hbase := hbase i) (hfew := hfew i) (hline := hline) (hs := hs i) (hplain := hplain i), fun σ H ρ μ s Q hr m h => ?_⟩⟩
  refine so σ H ρ μ s _ hr m (wp_mono (wp_bind h) (fun v s1 h1 => ?_) fun _ _ q => q)
  intro x H1 μ1 g1 m1 r1
  split at h1
  · rename_i hL
    obtain ⟨zs, ez⟩ := Option.isSome_iff_exists.mp hL
    obtain ⟨l, vs, ex, hq, _, _⟩ := rep_asL m1 r1 ez
    refine ⟨by rw [ex]; exact .inl ⟨rfl, vs, hq⟩, ?_⟩
    refine sa σ H1 ρ μ1 s1 _ (hr.mono g1 m) m1 (wp_mono (wp_bind h1) (fun ys s2 h2 => ?_) fun _ _ q => q.mono g1)
    intro q us H2 μ2 g2' m2' hq0 hh e2 hl r2
    have g2 : Grow μ1 H1 μ2 H2 := g2'.unhide (m1.off hq0)
    have m2 := m2'.unhide
    have h3 : (chg s2 v (fun xs => if xs.length + ys.length ≤ sizeLine then some (xs ++ ys) else none) ys).wp (VP K μ2 H2 Q) (XP K μ2 H2 EW) := wp_mono h2 (fun _ _ q => q.mono (g1.trans g2)) fun _ _ q => q.mono (g1.trans g2)
    refine (chg_snd (r := rExtend) (args := [.ref q]) m2 (Rep.mono g2 m1 v x r1) (repAll_below _ _ r2.unhide) (fun l xs zs vs hv hvl hx hy => ?_) (fun k xs zs hy b1 b2 => ?_) h3).2
    · split at hy
      · rename_i hlen
        cases hy
        refine ⟨vs ++ us, hx.append r2.unhide, by rw [List.length_append, hx.length, r2.length]; exact hlen, fun Q q' => ⟨l, q, vs, us, rfl, rfl, hv, e2, by rw [hx.length, r2.length]; exact hlen, q'⟩⟩
      · cases hy
    · split at hy
      · cases hy
        rw [belowAll_append, b1, b2]; rfl
      · cases hy
  · exact False.elim h1
/-- order.index(k) -/
theorem int_idx {H : Hp} {μ : Mu} {ns : List Int} {k : Int} (hk : k ∈ ns) : (ns.map V.int)[ns.idxOf k]? = some (.int k) ∧ ∀ (m : Nat) (z : V), m < ns.idxOf k → (ns.map V.int)[m]? = some z → eqV z (.int k) = false := by
  obtain ⟨f1, f2⟩ := idxOf_first hk
  refine ⟨by rw [List.getElem?_map, f1]; rfl, fun m z hm hz => ?_⟩
  rw [List.getElem?_map] at hz
  cases en : ns[m]? with
  | none => rw [en] at hz; cases hz
  | some j =>
    rw [en] at hz
    cases hz
    have := f2 m hm
    rw [en] at this
    show (j == k) = false
    exact beq_eq_false_iff_ne.mpr fun e => this (by rw [e])
theorem me_idxL (ho : ME X K EW o mo) (ha : MA X K EW (e :: es) mas)
    (hbase : ∀ i, attributeBase o "index" (X i).env (eval o (X i).env) = eval o (X i).env := by intro _; rfl)
    (hfew : ∀ i, ((backTo cpos (starEach (e :: es) (X i).env)).all (fun x => !x.1) && (backToKw cpos (keywordEach [] (X i).env)).all (fun x => x.1.isSome)
      && decide ((e :: es).length + ([] : List Keyword).length + (if ([] : List Keyword).isEmpty then 0 else 1) < 30)) = true := by intro _; rfl)
    (hline : (apos.endLine == cpos.line) = true := by rfl) (hs : ∀ i, starEach (e :: es) (X i).env = (false, eval e (X i).env) :: starEach es (X i).env := by intro _; rfl) (hplain : ∀ i, (backTo cpos (starEach es (X i).env)).any (·.1) = false := by intro _; rfl)
    (c : CxF X K) : ME X K EW (.Call (.Attribute o "index" apos) (e :: es) [] cpos) (eMeth bIndex mo mas) := by
  obtain ⟨to', po, so⟩ := ho.ex
  obtain ⟨ta, pa, sa⟩ := ha.ex
  refine ⟨⟨tBM K "list" (rIndex K) to' ta, fun i => c.kk i ▸ pe_bm PySem.F.plainAttrs_list PySem.F.slot_list_index PySem.F.type_list_index mt_index (po i) (pa i) (hbase := hbase i) (hfew := hfew i) (hline := hline) (hs := hs i) (hplain := hplain i), fun σ H ρ μ s Q hr m h => ?_⟩⟩
  refine so σ H ρ μ s _ hr m (wp_mono (wp_bind h) (fun v s1 h1 => ?_) fun _ _ q => q)
  intro x H1 μ1 g1 m1 r1
  split at h1
  · rename_i hL
    obtain ⟨zs, ez⟩ := Option.isSome_iff_exists.mp hL
    obtain ⟨l, vs, ex, hq, _, _⟩ := rep_asL m1 r1 ez
    refine ⟨by rw [ex]; exact .inl ⟨rfl, vs, hq⟩, ?_⟩
    refine sa σ H1 ρ μ1 s1 _ (hr.mono g1 m) m1 (wp_mono (wp_bind h1) (fun as s2 h2 => ?_) fun _ _ q => q.mono g1)
    intro xs H2 μ2 g2 m2 r2
    obtain ⟨w, e, q⟩ := wp_ofO h2
    unfold bIndex at e
    split at e
    · rename_i k
      cases ea : asL s2 v with
      | none => rw [ea] at e; cases e
      | some ys =>
        rw [ea] at e
        cases en : intsOf ys with
        | none => simp only [Option.bind_some, en] at e; cases e
        | some ns =>
          simp only [Option.bind_some, en] at e
          split at e
          · rename_i hk
            cases e
            obtain ⟨l', us, ex', hq', hl', hr'⟩ := rep_asL m2 (Rep.mono g2 m1 v x r1) ea
            obtain ⟨ev, _⟩ := intsOf_rep hr' en
            obtain ⟨y, ey, ry⟩ := all1 r2
            obtain ⟨i1, i2⟩ := int_idx (H := H2) (μ := μ2) hk
            refine ⟨l', us, .int k, ns.idxOf k, .int k, ex', by rw [ey, rep_int ry], hq', rfl, ?_, by rw [ev]; exact i1, ?_, by rw [ev]; exact i2, q _ H2 μ2 (g1.trans g2) m2 rep_of_int⟩
            · rw [ev, List.all_map]; exact List.all_eq_true.mpr fun _ _ => rfl
            · show (k == k) = true
              exact beq_self_eq_true k
          · cases e
    · cases e
  · exact False.elim h1
end
/-! ### tuples' index -/
def rIdxT (K : PySem.W.Frag) : V → List V → Hp → VK → Prop := fun x xs H Q => ∃ (p : Addr) (ns : List Int) (k : Int), x = .ref p ∧ xs = [.int k] ∧ SqT K H p (ns.map V.int) ∧ k ∈ ns ∧ Q (.int (ns.idxOf k : Nat)) H
theorem mt_idxT {X : Cx} : MtR X "tuple.index" (rIdxT X.K) := by
  intro pins s σ H x xs v us Q I rx rxs h
  obtain ⟨p, ns, k, rfl, rfl, hq, hk, q⟩ := h
  cases rx
  cases rxs with
  | cons ry rt =>
    cases rt
    obtain ⟨t, rfl⟩ := ry
    obtain ⟨its, rv, pt, hz⟩ := I.tuple hq
    exact PySem.SeqAt.call_tuple_index (s := s) pt (.ints rv.ints) hk ⟨.int (ns.idxOf k : Nat), H, I.tok _, ⟨_, rfl⟩, q⟩
section
variable {ι : Type} {X : ι → Cx} {K : PySem.W.Frag} {EW : XK} {e o : Expr} {es : List Expr} {mo : Ex} {mas : Ax} {apos cpos : Pos}
theorem me_idxT (ho : ME X K EW o mo) (ha : MA X K EW (e :: es) mas)
    (hbase : ∀ i, attributeBase o "index" (X i).env (eval o (X i).env) = eval o (X i).env := by intro _; rfl)
    (hfew : ∀ i, ((backTo cpos (starEach (e :: es) (X i).env)).all (fun x => !x.1) && (backToKw cpos (keywordEach [] (X i).env)).all (fun x => x.1.isSome)
      && decide ((e :: es).length + ([] : List Keyword).length + (if ([] : List Keyword).isEmpty then 0 else 1) < 30)) = true := by intro _; rfl)
    (hline : (apos.endLine == cpos.line) = true := by rfl) (hs : ∀ i, starEach (e :: es) (X i).env = (false, eval e (X i).env) :: starEach es (X i).env := by intro _; rfl) (hplain : ∀ i, (backTo cpos (starEach es (X i).env)).any (·.1) = false := by intro _; rfl)
    (c : CxF X K) : ME X K EW (.Call (.Attribute o "index" apos) (e :: es) [] cpos) (eMethT bIndexT mo mas) := by
  obtain ⟨to', po, so⟩ := ho.ex
  obtain ⟨ta, pa, sa⟩ := ha.ex
  refine ⟨⟨tMG (tyTup K) (rIdxT K) to' ta, fun i => c.kk i ▸ pe_mG ty_tup PySem.F.plainAttrs_tuple PySem.F.slot_tuple_index PySem.F.type_tuple_index mt_idxT (po i) (pa i) (hbase := hbase i) (hfew := hfew i) (hline := hline) (hs := hs i) (hplain := hplain i), fun σ H ρ μ s Q hr m h => ?_⟩⟩
  refine so σ H ρ μ s _ hr m (wp_mono (wp_bind h) (fun v s1 h1 => ?_) fun _ _ q => q)
  intro x H1 μ1 g1 m1 r1
  split at h1
  · rename_i hL
    cases v with
    | tup zs =>
      obtain ⟨l, vs, ex, hq, _, _⟩ := rep_tup r1
      refine ⟨⟨l, vs, ex, hq⟩, ?_⟩
      refine sa σ H1 ρ μ1 s1 _ (hr.mono g1 m) m1 (wp_mono (wp_bind h1) (fun as s2 h2 => ?_) fun _ _ q => q.mono g1)
      intro xs H2 μ2 g2 m2 r2
      obtain ⟨w, e, q⟩ := wp_ofO h2
      unfold bIndexT at e
      split at e
      · rename_i k
        cases en : intsOf zs with
        | none => simp only [asT, Option.bind_some, en] at e; cases e
        | some ns =>
          simp only [asT, Option.bind_some, en] at e
          split at e
          · rename_i hk
            cases e
            obtain ⟨l', us, ex', hq', hl', hr'⟩ := rep_tup (Rep.mono g2 m1 _ x r1)
            obtain ⟨ev, _⟩ := intsOf_rep hr' en
            obtain ⟨y, ey, ry⟩ := all1 r2
            exact ⟨l', ns, k, ex', by rw [ey, rep_int ry], by rw [← ev]; exact hq'.sqT, hk, q _ H2 μ2 (g1.trans g2) m2 rep_of_int⟩
          · cases e
      · cases e
    | _ => cases hL
  · exact False.elim h1
end
end FM

set_option autoImplicit false
/-! sorted, repr, item stores; a def's body; the end -/
namespace FM
open PySem PySem.Spec PyProof.Rows L2
variable [Tbl]
/-! ### sorted -/
theorem sorted_one : ∀ {l m : List Int}, l.Perm m → l.Pairwise (· ≤ ·) → m.Pairwise (· ≤ ·) → l = m
  | [], m, h, _, _ => (List.nil_perm.mp h).symm
  | a :: l, m, h, h1, h2 => by
    cases m with
    | nil => exact absurd h.symm (by simp)
    | cons b m =>
      obtain ⟨a1, a2⟩ := List.pairwise_cons.mp h1
      obtain ⟨b1, b2⟩ := List.pairwise_cons.mp h2
      have e : a = b := by
        have m1 : a ∈ b :: m := h.mem_iff.mp List.mem_cons_self
        have m2 : b ∈ a :: l := h.mem_iff.mpr List.mem_cons_self
        rcases List.mem_cons.mp m1 with e | m1
        · exact e
        · rcases List.mem_cons.mp m2 with e | m2
          · exact e.symm
          · have := a1 b m2
            have := b1 a m1
            omega
      subst e
      rw [sorted_one (List.perm_cons a |>.mp h) a2 b2]
theorem sortI_spec (ns : List Int) : (sortI ns).Perm ns ∧ (sortI ns).Pairwise (· ≤ ·) := by
  refine ⟨List.mergeSort_perm _ _, ?_⟩
  have h := List.pairwise_mergeSort (le := fun a b : Int => decide (a ≤ b)) (fun a b c h1 h2 => by simp at h1 h2 ⊢; omega) (fun a b => by simp; omega) ns
  exact h.imp fun h => by simpa using h
section
variable {ι : Type} {X : ι → Cx} {K : PySem.W.Frag} {EW : XK} {a b e o i : Expr} {es : List Expr} {ma mb mo me mi : Ex} {mas : Ax} {mf : Fx} {pos p apos cpos tpos : Pos}
theorem mf_sortedI (c : CxF X K) (hg : ∀ i, Gl (X i) "sorted") (hm : ∀ i, (X i).mg "sorted" = none) (ha : ME X K EW a ma) (he : ∀ i, starEach [a] (X i).env = (false, eval a (X i).env) :: starEach [] (X i).env := by intro _; rfl) (hpl : ∀ i, (backTo pos (starEach [] (X i).env)).any (·.1) = false := by intro _; rfl) :
    MF X K EW (.Call (.Name "sorted" p) [a] [] pos) (fSortedI ma) := by
  obtain ⟨ta, pa, sa⟩ := ha.ex
  refine ⟨⟨tCB (rSortedI K) (tCons ta tNil), fun i => c.kk i ▸ pe_callB cr_sortedI (hg i) (hm i) boot_sorted (pa_cons (pa i) pa_nil (he i)) (he := he i) (hpl := hpl i), fun σ H ρ μ s Q hr m h => ?_⟩⟩
  refine sa σ H ρ μ s _ hr m (wp_mono (wp_bind h) (fun v s1 h1 => ?_) fun _ _ q => q)
  intro x H1 μ1 g1 m1 r1
  cases ea : asL s1 v with
  | none => simp only [ea, Option.bind_none] at h1; exact False.elim h1
  | some ys =>
    cases en : intsOf ys with
    | none => simp only [ea, Option.bind_some, en] at h1; exact False.elim h1
    | some ns =>
      simp only [ea, Option.bind_some, en] at h1
      obtain ⟨q, vs, eq, hq, hl, hrr⟩ := rep_asL m1 r1 ea
      obtain ⟨ev, _⟩ := intsOf_rep hrr en
      refine ⟨q, ns, by rw [eq], by rw [← ev]; exact hq, fun ns' p hp hs hn => ?_⟩
      obtain ⟨s1', s2'⟩ := sortI_spec ns
      have e : ns' = sortI ns := sorted_one (hp.trans s1'.symm) hs s2'
      rw [e]
      refine fs_new h1 g1 m1 ?_ (repInts _) p hn
      rw [List.length_map, s1'.length_eq]
      have := congrArg List.length ev
      rw [List.length_map] at this
      omega
/-! ### repr -/
theorem cr_reprC {X : Cx} (hg : X.A.guards = some []) (hu : X.A.units + 100 < cLine) : CallR X (.builtin "repr") (rReprC X.K) := by
  intro pins s σ H xs us Q I r h
  obtain ⟨x, d, rfl, hd, nd, sh, sz, dp, q⟩ := h
  cases r with
  | cons r0 r1 =>
    cases r1
    rename_i u
    obtain ⟨as, rd⟩ := Dp.reads I d x u hd r0
    cases hd with
    | non =>
      cases r0
      exact PySem.P.repr_of_none ⟨.str _, H, I.tok _, ⟨_, rfl⟩, q⟩
    | bl b =>
      cases r0
      have e : PyData.shown (.bool b) = (if b = true then PySem.Str.ofString "True" else PySem.Str.ofString "False") := by simp [PyData.shown]
      rw [e] at q
      exact PySem.P.repr_of_bool ⟨.str _, H, I.tok _, ⟨_, rfl⟩, q⟩
    | int i =>
      obtain ⟨t, rfl⟩ := r0
      have e : PyData.shown (.int i) = toString i := by simp [PyData.shown]
      rw [e] at q
      exact PySem.P.repr_of_int (by simpa [PyData.showable] using sh) ⟨.str _, H, I.tok _, ⟨_, rfl⟩, q⟩
    | str z =>
      obtain ⟨t, rfl⟩ := r0
      have e : PyData.shown (.str z) = reprText z := by simp [PyData.shown]
      rw [e] at q sz
      exact PySem.P.repr_of_str ⟨.str _, H, I.tok _, ⟨_, rfl⟩, q⟩ sz
    | lst hs ha =>
      cases r0
      exact repr_of_reads' rd sh (fun z => by rw [nd] at z; cases z) hg (by omega) (fun _ _ e => e) (fun h' t tk hk => ⟨.str _, H, I.kept (t' := tk) hk, ⟨_, rfl⟩, q⟩) sz
    | tup hs ha =>
      cases r0
      exact repr_of_reads' rd sh (fun z => by rw [nd] at z; cases z) hg (by omega) (fun _ _ e => e) (fun h' t tk hk => ⟨.str _, H, I.kept (t' := tk) hk, ⟨_, rfl⟩, q⟩) sz
theorem cs_repr {k : Nat} (c : CxG X K k) : CallS X K (.builtin "repr") bRepr := by
  refine ⟨rReprC K, fun i => c.kk i ▸ cr_reprC (c.gd i) (c.un i), fun xs H μ s as v m r e Q q => ?_⟩
  unfold bRepr at e
  split at e
  · split at e
    · rename_i x _ w ew
      split at e
      · rename_i hc
        cases e
        obtain ⟨y, ey, ry⟩ := all1 r
        obtain ⟨h1, h2⟩ := res_dp m 8 x y w ry ew
        exact ⟨y, toD w, ey, h1, canLay_noDict _ h2, hc.1, hc.2.1, hc.2.2, q _ H μ (.refl m) m (by unfold Rep; rfl)⟩
      · cases e
    · cases e
  · cases e
/-! ### xs[i] = e, xs[i] op= e, x op= e -/
theorem set_snd {H : Hp} {μ : Mu} {s s' : S} {v i w : Val} {x y z : V} {Q : Hp → Prop} (m : Mem K H μ s) (rx : Rep K H μ v x) (ry : Rep K H μ i y) (rz : Rep K H μ w z) (e : setL s v i w = some s')
    (h : ∀ H', Grow μ H μ H' → Mem K H' μ s' → Q H') : rSetL x y z H Q := by
  unfold setL at e
  split at e
  · rename_i k n j
    unfold Rep at rx
    obtain ⟨l, ex, el⟩ := rx
    split at e
    · rename_i xs e2
      split at e
      · rename_i t et
        split at e
        · rename_i hc
          cases e
          obtain ⟨vs, hv, hl, hrr⟩ := m.cel k n l _ el e2
          have b1 : below (k + 1) w = true := by
            rcases hc with hc | hc
            · have q := rep_below w z rz
              rw [m.len, ← hc] at q
              exact q
            · exact hc
          have b2 : belowAll (k + 1) (xs.set t w) = true := by
            have := m.bel k n _ e2
            have this : belowAll (k + 1) xs = true := this
            rw [belowAll_mem] at this ⊢
            intro u hu
            rcases List.mem_or_eq_of_mem_set hu with hu | hu
            · exact this u hu
            · rw [hu]; exact b1
          obtain ⟨m2, g2⟩ := m.upd (ws := vs.set t z) el e2 (by rw [List.length_set]; exact hl) (hrr.set t rz) b2
          exact ⟨l, vs, j, t, ex, rep_int ry, hv, by rw [hrr.length]; exact et, h _ g2 m2⟩
        · cases e
      · cases e
    · cases e
  · cases e
theorem ms_sub (he : ME X K EW e me) (ho : ME X K EW o mo) (hi : ME X K EW i mi)
    (ha : ∀ j v, assign (.Subscript o i tpos) (X j).env v = (do
      let ov ← holding [v] (eval o (X j).env)
      let iv ← holding [v, ov] (eval i (X j).env)
      standAt tpos
      holding [v, ov, iv] (setItem ov iv v)
      release [v, ov, iv] []) := by intro _ _; rfl) (hs : ∀ j, swapsWithSole [.Subscript o i tpos] e pos.line (X j).env = Pure.pure false := by intro _; rfl) (hw : ∀ j, swappedStores [.Subscript o i tpos] e (X j).env = Pure.pure none := by intro _; rfl)
    (h1 : ∀ j, (assignEach [.Subscript o i tpos] (X j).env).map (·.2) = [assign (.Subscript o i tpos) (X j).env] := by intro _; rfl) : MS X K EW (.Assign [.Subscript o i tpos] e pos) (sSub mo mi me) := by
  obtain ⟨te, pe, se⟩ := he.ex
  obtain ⟨to', po, so⟩ := ho.ex
  obtain ⟨ti, pi, si⟩ := hi.ex
  refine ⟨⟨_, fun j => ps_asg (pe j) (pg_sub (po j) (pi j) set_list (ha j)) (hs j) (hw j) (h1 j), fun σ H ρ μ s D hr m h => ?_⟩⟩
  refine se σ H ρ μ s _ hr m (wp_mono (wp_seq h) (fun v s1 h1 => ?_) fun _ _ q => q)
  intro x H1 μ1 g1 m1 r1
  refine so σ H1 ρ μ1 s1 _ (hr.mono g1 m) m1 (wp_mono (wp_seq h1) (fun u s2 h2 => ?_) fun _ _ q => q.mono g1)
  intro y H2 μ2 g2 m2 r2
  have g12 := g1.trans g2
  refine si σ H2 ρ μ2 s2 _ (hr.mono g12 m) m2 (wp_mono (wp_seq h2) (fun t s3 h3 => ?_) fun _ _ q => q.mono g12)
  intro z H3 μ3 g3 m3 r3
  have g13 := g12.trans g3
  split at h3
  · rename_i s4 e4
    refine set_snd m3 (Rep.mono g3 m2 u y r2) r3 (Rep.mono g3 m2 v x (Rep.mono g2 m1 v x r1)) e4 fun H4 g4 m4 => ?_
    exact h3 σ H4 μ3 (g13.trans g4) m4 (hr.mono (g13.trans g4) m)
  · exact False.elim h3
def rGetL (K : PySem.W.Frag) : V → V → Hp → VK → Prop := fun o i H Q => ∃ p xs k v, o = .ref p ∧ i = .int k ∧ 0 ≤ k ∧ SqL K H p xs ∧ atI xs k = some v ∧ Q v H
theorem get_listP {X : Cx} : PGet X (rGetL X.K) := by
  intro pins s σ H o i ov iv Q I ro ri h
  obtain ⟨p, xs, k, z, rfl, rfl, h0, hq, he, q⟩ := h
  cases ro
  obtain ⟨t, rfl⟩ := ri
  obtain ⟨its, r, pl, hz⟩ := I.list hq
  obtain ⟨j, h1, h2, h3, h4, h5⟩ := atI_get he
  obtain ⟨w, ew, rw'⟩ := r.get h2
  have hn := line63
  have hj : k.toNat = j := by
    rw [seqIndex_of h0 h5] at h1
    exact Option.some.inj h1
  have hlt : k < 2 ^ 63 := by omega
  exact wpAny_getItem_list pl.isList h0 hlt (by rw [hj]; simpa using ew) ⟨z, H, I, rw', q⟩
/-- an operator in place -/
def IpS {ι : Type} (X : ι → Cx) (K : PySem.W.Frag) (op : Operator) (g : S → Val → Val → Option Val) : Prop :=
  ∃ r, (∀ i, PIp (X i) op r) ∧ ∀ x y H μ s a b v, Mem K H μ s → Rep K H μ a x → Rep K H μ b y → g s a b = some v → ∀ Q : VK, VP K μ H Q v s → r x y H Q
/-- + of ints alone -/
theorem is_add : IpS X K .Add opAddI := by
  refine ⟨_, fun _ => ip_add, fun x y H μ s a b v m ra rb e Q q => ?_⟩
  unfold opAddI at e
  split at e
  · cases e
    exact ⟨_, _, rep_int ra, rep_int rb, q _ H μ (.refl m) m rep_of_int⟩
  · cases e
theorem ms_aug {op : Operator} {k : Nat} {x : PySem.Str} {pos' : Pos} {g : S → Val → Val → Option Val} (o' : IpS X K op g) (hN : ∀ i, (X i).N.Nodup) (hi : ∀ i, (X i).N[k]? = some x) (hx : ∀ i, Loc (X i).env.scope x) (he : ME X K EW e me)
    (hf : ∀ i, (X i).fn x = true ∨ (X i).env.scope.names.lookup x = some .local := by first | exact fun _ => .inl rfl | exact fun _ => .inr rfl) : MS X K EW (.AugAssign (.Name x pos') op e pos) (sAug k g me) := by
  obtain ⟨te, pe, se⟩ := he.ex
  obtain ⟨r, pr, sr⟩ := o'
  refine ⟨⟨_, fun i => ps_aug (hN i) (hi i) (hx i) (pe i) (pr i) (hf i), fun σ H ρ μ s D hr m h => ?_⟩⟩
  unfold SW sAug at h
  split at h
  · rename_i v ev
    obtain ⟨y, hy, ry⟩ := hr.get k v ev
    refine ⟨y, hy, ?_⟩
    refine se σ H ρ μ s _ hr m (wp_mono (wp_seq h) (fun u s1 h1 => ?_) fun _ _ q => q)
    intro z H1 μ1 g1 m1 r1
    have h1 := wp_seq h1
    obtain ⟨w, ew, q⟩ := wp_ofO h1
    refine sr y z H1 μ1 s1 v u w m1 (Rep.mono g1 m v y ry) r1 ew _ ?_
    intro t H2 μ2 g2 m2 r2
    exact q _ H2 μ2 (g1.trans g2) m2 ((hr.mono (g1.trans g2) m).set k r2)
  · exact False.elim h
theorem ms_augSub {op : Operator} {g : S → Val → Val → Option Val} (o' : IpS X K op g) (c : CxF X K) (ho : ME X K EW o mo) (hi : ME X K EW i mi) (he : ME X K EW e me)
    (ha : ∀ ov iv new, augStore i ov iv new = (do holding [new, ov, iv] (setItem ov iv new); release [new, ov, iv] []; Pure.pure .next) := by intros; rfl) : MS X K EW (.AugAssign (.Subscript o i tpos) op e pos) (sAugSub g mo mi me) := by
  obtain ⟨te, pe, se⟩ := he.ex
  obtain ⟨to', po, so⟩ := ho.ex
  obtain ⟨ti, pi, si⟩ := hi.ex
  obtain ⟨r, pr, sr⟩ := o'
  refine ⟨⟨tAugS to' ti te (rGetL K) r rSetL, fun j => c.kk j ▸ ps_augS (po j) (pi j) get_listP (pe j) (pr j) set_list ha, fun σ H ρ μ s D hr m h => ?_⟩⟩
  refine so σ H ρ μ s _ hr m (wp_mono (wp_seq h) (fun v s1 h1 => ?_) fun _ _ q => q)
  intro x H1 μ1 g1 m1 r1
  refine si σ H1 ρ μ1 s1 _ (hr.mono g1 m) m1 (wp_mono (wp_seq h1) (fun u s2 h2 => ?_) fun _ _ q => q.mono g1)
  intro y H2 μ2 g2 m2 r2
  have g12 := g1.trans g2
  have rx2 := Rep.mono g2 m1 v x r1
  obtain ⟨old, eo, h3⟩ := wp_ofO (wp_seq h2)
  unfold opIxN at eo
  split at eo
  · rename_i k
    split at eo
    · rename_i hk
      cases ea : asL s2 v with
      | none => rw [ea] at eo; cases eo
      | some xs =>
        rw [ea] at eo
        obtain ⟨q, vs, eq, hq, _, hrr⟩ := rep_asL m2 rx2 ea
        obtain ⟨z, hz, rz⟩ := rep_at hrr eo
        refine ⟨q, vs, k, z, eq, rep_int r2, hk, hq, hz, ?_⟩
        refine se σ H2 ρ μ2 s2 _ (hr.mono g12 m) m2 (wp_mono (wp_seq h3) (fun w s3 h4 => ?_) fun _ _ q => q.mono g12)
        intro t H3 μ3 g3 m3 r3
        have g13 := g12.trans g3
        obtain ⟨nw, en, h5⟩ := wp_ofO (wp_seq h4)
        refine sr z t H3 μ3 s3 old w nw m3 (Rep.mono g3 m2 old z rz) r3 en _ ?_
        intro t4 H4 μ4 g4 m4 r4
        have g14 := g13.trans g4
        split at h5
        · rename_i s6 e6
          refine set_snd m4 (Rep.mono g4 m3 v x (Rep.mono g3 m2 v x rx2)) (Rep.mono g4 m3 _ y (Rep.mono g3 m2 _ y r2)) r4 e6 fun H5 g5 m5 => ?_
          exact h5 σ H5 μ4 (g14.trans g5) m5 (hr.mono (g14.trans g5) m)
        · exact False.elim h5
    · cases eo
  · cases eo
end
end FM

set_option autoImplicit false
/-! negation, chains, sorted(set(..)) -/
namespace FM
open PySem PySem.Spec PyProof.Rows L2
variable [Tbl]
def opNeg (s : S) : Val → Option Val
  | .int i => some (.int (-i))
  | _ => none
def tChn (f g : S → Val → Val → Option Val) (a b c : Ex) : Tx := tVal (eChain f g a b c)
/-- into a list that rises -/
def insD (n : Int) : List Int → List Int
  | [] => [n]
  | m :: r => if n < m then n :: m :: r else if n = m then m :: r else m :: insD n r
def sortD : List Int → List Int
  | [] => []
  | n :: r => insD n (sortD r)
theorem insD_mem {n k : Int} : ∀ {l : List Int}, k ∈ insD n l ↔ k = n ∨ k ∈ l
  | [] => by simp [insD]
  | m :: r => by
    unfold insD
    split
    · simp
    · split
      · rename_i e; subst e; simp
      · simp only [List.mem_cons, insD_mem (l := r)]
        constructor
        · rintro (h | h | h) <;> simp [h]
        · rintro (h | h | h) <;> simp [h]
theorem insD_up {n : Int} : ∀ {l : List Int}, l.Pairwise (· < ·) → (insD n l).Pairwise (· < ·)
  | [], _ => by simp [insD]
  | m :: r, h => by
    obtain ⟨h1, h2⟩ := List.pairwise_cons.mp h
    unfold insD
    split
    · rename_i hl
      refine List.pairwise_cons.mpr ⟨fun k hk => ?_, h⟩
      rcases List.mem_cons.mp hk with e | hk
      · omega
      · have := h1 k hk; omega
    · split
      · exact h
      · rename_i hl hne
        refine List.pairwise_cons.mpr ⟨fun k hk => ?_, insD_up h2⟩
        rcases insD_mem.mp hk with e | hk
        · omega
        · exact h1 k hk
theorem sortD_mem {k : Int} : ∀ {l : List Int}, k ∈ sortD l ↔ k ∈ l
  | [] => by simp [sortD]
  | n :: r => by unfold sortD; rw [insD_mem, sortD_mem (l := r)]; simp
theorem sortD_up : ∀ (l : List Int), (sortD l).Pairwise (· < ·)
  | [] => by simp [sortD]
  | n :: r => insD_up (sortD_up r)
theorem up_one {l m : List Int} (h1 : l.Pairwise (· < ·)) (h2 : m.Pairwise (· < ·)) (h : ∀ k, k ∈ l ↔ k ∈ m) : l = m := by
  refine sorted_one ?_ (h1.imp fun q => Int.le_of_lt q) (h2.imp fun q => Int.le_of_lt q)
  exact (List.perm_ext_iff_of_nodup (h1.imp fun q => by omega) (h2.imp fun q => by omega)).mpr h
theorem insD_len (n : Int) : ∀ (l : List Int), (insD n l).length ≤ l.length + 1
  | [] => by simp [insD]
  | m :: r => by
    unfold insD
    split
    · simp
    · split
      · simp
      · have := insD_len n r; simp; omega
theorem sortD_len : ∀ (l : List Int), (sortD l).length ≤ l.length
  | [] => by simp [sortD]
  | n :: r => by have := sortD_len r; have := insD_len n (sortD r); unfold sortD; simp; omega
/-- sorted(set(tuple of ints)) -/
def fSortSetT (a : Ex) : Fx := fun ρ s => (a ρ s).bind fun x s1 => match (asT x).bind intsOf with
  | some ns => if ns.length < 64 then .ok ((sortD ns).map .int) s1 else .no
  | none => .no
section
variable {X : Cx} {a : Expr} {ta : TE} {p p2 q pos : Pos}
def tSortSetT (K : PySem.W.Frag) (ta : TE) : TE := fun σ H Q => ta σ H fun x H1 => ∃ (l : Addr) (ns : List Int), x = .ref l ∧ SqT K H1 l (ns.map V.int) ∧ ns.length < 64 ∧ ∀ r, H1 r = none → Q (.ref r) (upd H1 r (.lst ((sortD ns).map V.int)))
theorem pe_sortSetT (hc : X.calm = true) (hg : Gl X "sorted") (hm : X.mg "sorted" = none) (hg2 : Gl X "set") (hm2 : X.mg "set" = none) (ha : PE X a ta)
    (na : starEach [a] X.env = (false, eval a X.env) :: starEach [] X.env) : PE X (.Call (.Name "sorted" p) [.Call (.Name "set" p2) [a] [] q] [] pos) (tSortSetT X.K ta) := by
  refine ⟨fun pins s σ H Q I h => ?_⟩
  refine Call_ (ld_blt I hg hm boot_sorted ?_)
  refine callWith_builtin1 (args_cons ?_ rfl) rfl rfl
  refine Call_ (ld_blt I hg2 hm2 PyProof.Rows.boot_set ?_)
  refine callWith_type1 (args_cons (thn (ha.run pins s σ H _ I h) fun v s1 z => args_nil ?_) na) na rfl
  obtain ⟨x, H1, I1, r1, l, ns, ex, hq, hl, q1⟩ := z
  subst ex
  cases r1
  obtain ⟨its, rv, pt, hz⟩ := I1.tuple hq
  refine call_set_tupI ns (I1.ok.hd hc) (show s1.heap.IsTuple l its.toArray from pt) (ints_of_vals rv) (by unfold scanBound; omega) fun h' tk c R hcn kp => ?_
  refine args_nil ?_
  have I2 : Inv X pins σ H1 { s1 with heap := h', toks := tk } := I1.kept fun b o e => kp b o e
  refine sorted_set R (I2.ok.hd hc) (by omega) fun s' r out c2 ms k2 g2 os hr hg hi up hmem hlen => ?_
  have em : ms = sortD ns := up_one up (sortD_up ns) fun k => (hmem k).trans (by rw [sortD_mem]; simp)
  subst em
  have zl : ((sortD ns).map V.int).length ≤ sizeLine := by rw [List.length_map]; have := sortD_len ns; unfold sizeLine; omega
  have hn : H1 r = none := I2.hok.fresh hr
  have J : Inv X pins σ (upd H1 r (.lst ((sortD ns).map V.int))) { ({ s1 with heap := h', toks := tk } : Shared) with heap := s'.heap, gens := s'.gens, drawn := s'.drawn, toks := s'.toks } :=
    I2.call (ch := []) (Un.laid k2 hr hn) (I2.hok.laid k2 hr ⟨zl, out.toList, c2, vals_of_ints hi, hg⟩) (by rw [g2]; exact I2.bare) (fun _ z => nomatch z)
  have e : s' = { ({ s1 with heap := h', toks := tk } : Shared) with heap := s'.heap, gens := s'.gens, drawn := s'.drawn, toks := s'.toks } := by
    cases s'; cases s1; cases os; rfl
  rw [e]
  exact ⟨.ref r, _, J, rfl, q1 r hn⟩
end
section
variable {ι : Type} {X : ι → Cx} {K : PySem.W.Frag} {EW : XK} {a b c : Expr} {ma mb mc : Ex} {pos p p2 q : Pos}
theorem mf_sortSetT (c : CxF X K) (hg : ∀ i, Gl (X i) "sorted") (hm : ∀ i, (X i).mg "sorted" = none) (hg2 : ∀ i, Gl (X i) "set") (hm2 : ∀ i, (X i).mg "set" = none) (ha : ME X K EW a ma)
    (he : ∀ i, starEach [a] (X i).env = (false, eval a (X i).env) :: starEach [] (X i).env := by intro _; rfl) : MF X K EW (.Call (.Name "sorted" p) [.Call (.Name "set" p2) [a] [] q] [] pos) (fSortSetT ma) := by
  obtain ⟨ta, pa, sa⟩ := ha.ex
  refine ⟨⟨tSortSetT K ta, fun i => c.kk i ▸ pe_sortSetT (c.calm i) (hg i) (hm i) (hg2 i) (hm2 i) (pa i) (he i), fun σ H ρ μ s Q hr m h => ?_⟩⟩
  refine sa σ H ρ μ s _ hr m (wp_mono (wp_bind h) (fun v s1 h1 => ?_) fun _ _ q => q)
  intro x H1 μ1 g1 m1 r1
  cases v with
  | tup ys =>
    cases en : intsOf ys with
    | none => simp only [asT, Option.bind_some, en] at h1; exact False.elim h1
    | some ns =>
      simp only [asT, Option.bind_some, en] at h1
      split at h1
      · rename_i hlt
        obtain ⟨t, vs, ex, hq, hl, hrr⟩ := rep_tup r1
        obtain ⟨ev, _⟩ := intsOf_rep hrr en
        refine ⟨t, ns, ex, by rw [← ev]; exact hq.sqT, hlt, fun r hn => ?_⟩
        refine fs_new h1 g1 m1 ?_ (repInts _) r hn
        rw [List.length_map]; have := sortD_len ns; unfold sizeLine; omega
      · exact False.elim h1
  | _ => exact False.elim h1
/-- -a -/
theorem me_neg (ha : ME X K EW a ma) : ME X K EW (.UnaryOp .USub a pos) (eOp1 opNeg ma) := by
  obtain ⟨ta, pa, sa⟩ := ha.ex
  refine ⟨⟨_, fun i => pe_un un_neg (pa i), fun σ H ρ μ s Q hr m h => ?_⟩⟩
  refine sa σ H ρ μ s _ hr m (wp_mono (wp_bind h) (fun v s1 h1 => ?_) fun _ _ q => q)
  intro x H1 μ1 g1 m1 r1
  obtain ⟨w, e, q⟩ := wp_ofO h1
  cases v with
  | int i => cases e; exact ⟨i, rep_int r1, q _ H1 μ1 g1 m1 rep_of_int⟩
  | _ => cases e
/-- a op b op' c -/
theorem chain_ex {op op' : CmpOp} {f g : S → Val → Val → Option Val} (o : OpS X K (compareOp op) f) (o' : OpS X K (compareOp op') g) (ha : ME X K EW a ma) (hb : ME X K EW b mb) (hc : ME X K EW c mc) (hm : lastMarks [op, op'] [b, c] = false := by with_unfolding_all rfl) :
    ∃ t, (∀ i, PE (X i) (.Compare a [op, op'] [b, c] pos) t) ∧ (∀ i, PT (X i) (.Compare a [op, op'] [b, c] pos) (tTest t)) ∧ ∀ σ H ρ μ s Q, SR K H μ ρ σ → Mem K H μ s → (eChain f g ma mb mc ρ s).wp (VP K μ H Q) (XP K μ H EW) → t σ H Q := by
  obtain ⟨ta, pa, sa⟩ := ha.ex
  obtain ⟨tb, pb, sb⟩ := hb.ex
  obtain ⟨tc, pc, sc⟩ := hc.ex
  obtain ⟨r, pr, sr⟩ := o
  obtain ⟨r', pr', sr'⟩ := o'
  refine ⟨_, fun i => pe_chain (pr i) (pr' i) (pa i) (pb i) (pc i) hm, fun i => pt_chain (pr i) (pr' i) (pa i) (pb i) (pc i) hm, fun σ H ρ μ s Q hr m h => ?_⟩
  refine sa σ H ρ μ s _ hr m (wp_mono (wp_bind h) (fun v s1 h1 => ?_) fun _ _ q => q)
  intro x H1 μ1 g1 m1 r1
  refine sb σ H1 ρ μ1 s1 _ (hr.mono g1 m) m1 (wp_mono (wp_bind h1) (fun u s2 h2 => ?_) fun _ _ q => q.mono g1)
  intro y H2 μ2 g2 m2 r2
  have h2 := wp_bind h2
  obtain ⟨w, e, q⟩ := wp_ofO h2
  refine sr x y H2 μ2 s2 v u w m2 (Rep.mono g2 m1 v x r1) r2 e _ ?_
  intro z H3 μ3 g3 m3 r3
  have g23 := (g1.trans g2).trans g3
  split at q
  · refine ⟨true, rep_bl r3, ?_⟩
    rw [if_pos rfl]
    refine sc σ H3 ρ μ3 s2 _ (hr.mono g23 m) m3 (wp_mono (wp_bind q) (fun k s4 h4 => ?_) fun _ _ q => q.mono g23)
    intro z' H4 μ4 g4 m4 r4
    obtain ⟨w2, e2, q2⟩ := wp_ofO h4
    exact sr' y z' H4 μ4 s4 u k w2 m4 (Rep.mono (g3.trans g4) m2 u y r2) r4 e2 Q (q2.mono (g23.trans g4))
  · refine ⟨false, rep_bl r3, ?_⟩
    rw [if_neg Bool.false_ne_true]
    exact q _ H3 μ3 g23 m3 rep_of_bl
  · exact q.elim
theorem me_chain {op op' : CmpOp} {f g : S → Val → Val → Option Val} (o : OpS X K (compareOp op) f) (o' : OpS X K (compareOp op') g) (ha : ME X K EW a ma) (hb : ME X K EW b mb) (hc : ME X K EW c mc) (hm : lastMarks [op, op'] [b, c] = false := by with_unfolding_all rfl) :
    ME X K EW (.Compare a [op, op'] [b, c] pos) (eChain f g ma mb mc) :=
  let ⟨t, p1, _, q⟩ := chain_ex (pos := pos) o o' ha hb hc hm
  ⟨⟨t, p1, q⟩⟩
/-- a value as a test, by the reading of a comparison -/
theorem test_snd {t : TE} {me : Ex} (h : ∀ σ H ρ μ s Q, SR K H μ ρ σ → Mem K H μ s → (me ρ s).wp (VP K μ H Q) (XP K μ H EW) → t σ H Q) :
    ∀ σ H ρ μ s Q, SR K H μ ρ σ → Mem K H μ s → (tVal me ρ s).wp (TsP K μ H Q) (XP K μ H EW) → tTest t σ H Q := by
  intro σ H ρ μ s Q hr m hw
  refine h σ H ρ μ s _ hr m (wp_mono (wp_bind hw) (fun v s1 h1 => ?_) fun _ _ q => q)
  intro x H1 μ1 g1 m1 r1
  split at h1
  · exact ⟨_, rep_bl r1, h1 H1 μ1 g1 m1⟩
  · exact h1.elim
theorem mt_chain {op op' : CmpOp} {f g : S → Val → Val → Option Val} (o : OpS X K (compareOp op) f) (o' : OpS X K (compareOp op') g) (ha : ME X K EW a ma) (hb : ME X K EW b mb) (hc : ME X K EW c mc) (hm : lastMarks [op, op'] [b, c] = false := by with_unfolding_all rfl) :
    MT X K EW (.Compare a [op, op'] [b, c] pos) (tVal (eChain f g ma mb mc)) :=
  let ⟨t, _, p2, q⟩ := chain_ex (pos := pos) o o' ha hb hc hm
  ⟨⟨tTest t, p2, test_snd q⟩⟩
/-- two readings: the first that answers -/
def eAlt (m n : Ex) : Ex := fun ρ s => match m ρ s with
  | .no => n ρ s
  | r => r
theorem me_alt (ha : ME X K EW a ma) (hb : ME X K EW a mb) : ME X K EW a (eAlt ma mb) := by
  obtain ⟨ta, pa, sa⟩ := ha.ex
  obtain ⟨tb, pb, sb⟩ := hb.ex
  refine ⟨⟨fun σ H Q => ta σ H Q ∨ tb σ H Q, fun i => ⟨fun pins s σ H Q I h => h.elim (fun h => (pa i).run pins s σ H Q I h) fun h => (pb i).run pins s σ H Q I h⟩, fun σ H ρ μ s Q hr m h => ?_⟩⟩
  unfold eAlt at h
  cases e : ma ρ s with
  | no => rw [e] at h; exact .inr (sb σ H ρ μ s Q hr m h)
  | ok v s1 => rw [e] at h; exact .inl (sa σ H ρ μ s Q hr m (by rw [e]; exact h))
  | ex v s1 => rw [e] at h; exact .inl (sa σ H ρ μ s Q hr m (by rw [e]; exact h))
end
end FM

set_option autoImplicit false
/-! a def's body; the law's end -/
namespace FM
open PySem PySem.Spec PyProof.Rows L2
variable [Tbl]

section
variable {K : PySem.W.Frag} {H : Hp} {μ : Mu}
/-- without the newest frame -/
def Mu.pop (μ : Mu) : Mu := { μ with fr := μ.fr.tail }
theorem lk_pop {α : Type} {fr : List α} {r : List (List α)} {f n : Nat} {x : α} (h : lk (fr :: r) f n = some x) (hf : f < r.length) : lk r f n = some x := by
  unfold lk at h
  rw [if_neg (Nat.ne_of_lt hf)] at h
  exact h
theorem off_pop {fr : List Addr} {r : List (List Addr)} {hid hid' : Addr → Prop} (hh : ∀ x, hid' x → x ∈ fr ∨ hid x) {b : Addr} (h : Off ⟨fr :: r, hid⟩ b) : Off ⟨r, hid'⟩ b :=
  ⟨fun f hf => h.1 f (List.mem_cons_of_mem _ hf), fun q => (hh b q).elim (fun z => h.1 fr List.mem_cons_self z) h.2⟩
mutual
theorem rep_pop {fr : List Addr} {r : List (List Addr)} {hid hid' : Addr → Prop} (hh : ∀ x, hid' x → x ∈ fr ∨ hid x) : ∀ (v : Val) (x : V), below r.length v = true → Rep K H ⟨fr :: r, hid⟩ v x → Rep K H ⟨r, hid'⟩ v x
  | .non, _, _, h => h
  | .bl _, _, _, h => h
  | .int _, _, _, h => h
  | .str _, _, _, h => h
  | .tup xs, x, b, h => by
    unfold Rep at h ⊢; unfold below at b
    obtain ⟨a, vs, e, hq, hl, hr⟩ := h
    exact ⟨a, vs, e, hq, hl, repAll_pop hh xs vs b hr⟩
  | .lst xs, x, b, h => by
    unfold Rep at h ⊢; unfold below at b
    obtain ⟨a, vs, e, hq, ho, hl, hr⟩ := h
    exact ⟨a, vs, e, hq, off_pop hh ho, hl, repAll_pop hh xs vs b hr⟩
  | .scr xs, x, b, h => by
    unfold Rep at h ⊢; unfold below at b
    obtain ⟨a, vs, e, hq, hl, hr⟩ := h
    exact ⟨a, vs, e, hq.imp (fun q => ⟨q.1, off_pop hh q.2⟩) id, hl, repAll_pop hh xs vs b hr⟩
  | .dct _ _, _, _, h => by unfold Rep at h; exact h.elim
  | .ref f n, x, b, h => by
    unfold Rep at h ⊢; unfold below at b
    obtain ⟨a, e, q⟩ := h
    exact ⟨a, e, lk_pop q (of_decide_eq_true b)⟩
theorem repAll_pop {fr : List Addr} {r : List (List Addr)} {hid hid' : Addr → Prop} (hh : ∀ x, hid' x → x ∈ fr ∨ hid x) : ∀ (v : List Val) (x : List V), belowAll r.length v = true → RepAll K H ⟨fr :: r, hid⟩ v x → RepAll K H ⟨r, hid'⟩ v x
  | [], _, _, h => by unfold RepAll at h ⊢; exact h
  | v :: vs, x, b, h => by
    unfold RepAll at h ⊢; unfold belowAll at b
    simp only [Bool.and_eq_true] at b
    obtain ⟨w, ws, e, h1, h2⟩ := h
    exact ⟨w, ws, e, rep_pop hh v w b.1 h1, repAll_pop hh vs ws b.2 h2⟩
end
/-- the arguments in a new frame -/
theorem rep_push (hid : Addr → Prop) {r : List (List Addr)} {v : Val} {x : V} (h : Rep K H ⟨r, hid⟩ v x) : Rep K H ⟨[] :: r, hid⟩ v x := by
  refine Rep.sub (μ := ⟨r, hid⟩) (μ' := ⟨[] :: r, hid⟩) (fun f n b e => ?_) (fun b hb => ⟨fun f hf => ?_, hb.2⟩) v x h
  · have e : lk r f n = some b := e
    show lk ([] :: r) f n = some b
    unfold lk
    rw [if_neg (Nat.ne_of_lt (lk_lt e)), e]
  · rcases List.mem_cons.mp hf with e | hf
    · rw [e]; simp
    · exact hb.1 f hf
theorem repAll_push (hid : Addr → Prop) {r : List (List Addr)} : ∀ {v : List Val} {x : List V}, RepAll K H ⟨r, hid⟩ v x → RepAll K H ⟨[] :: r, hid⟩ v x
  | [], _, h => by unfold RepAll at h ⊢; exact h
  | v :: vs, x, h => by
    unfold RepAll at h ⊢
    obtain ⟨w, ws, e, h1, h2⟩ := h
    exact ⟨w, ws, e, rep_push hid h1, repAll_push hid h2⟩
theorem mem_push {hid : Addr → Prop} {r : List (List Addr)} {s : S} (m : Mem K H ⟨r, hid⟩ s) : Mem K H ⟨[] :: r, hid⟩ ([] :: s) := by
  have el : r.length = s.length := m.len
  refine ⟨by simp [m.shp], by simpa using m.nd, fun f hf a ha => ?_, fun f n a c e1 e2 => ?_, fun f n c e2 => ?_, m.hd, m.tb⟩
  · rcases List.mem_cons.mp hf with e | hf
    · rw [e] at ha; simp at ha
    · exact m.sep f hf a ha
  · unfold lk at e1 e2
    split at e1
    · simp at e1
    · rename_i ef
      rw [if_neg (by rw [← el]; exact ef)] at e2
      have q := m.cel f n a c e1 e2
      cases c with
      | lst xs =>
        obtain ⟨vs, e, hl, hr⟩ := q
        exact ⟨vs, e, hl, repAll_push hid hr⟩
      | dct _ _ => exact q.elim
  · unfold lk at e2
    split at e2
    · simp at e2
    · exact m.bel f n c e2
theorem mem_pop {hid hid' : Addr → Prop} {fr : List Addr} {r : List (List Addr)} (hh : ∀ x, hid' x → x ∈ fr ∨ hid x) {cs : List Cell} {s : S} (m : Mem K H ⟨fr :: r, hid⟩ (cs :: s)) : Mem K H ⟨r, hid'⟩ s := by
  have sh := m.shp
  simp only [List.map_cons, List.cons.injEq] at sh
  have el : r.length = s.length := by have := congrArg List.length sh.2; simpa using this
  have nd := m.nd
  simp only [List.flatten_cons, List.nodup_append] at nd
  refine ⟨sh.2, nd.2.1, fun f hf a ha q => ?_, fun f n a c e1 e2 => ?_, fun f n c e2 => ?_, fun a ha => ?_, m.tb⟩
  · rcases hh a q with z | z
    · exact nd.2.2 a z a (List.mem_flatten.mpr ⟨f, hf, ha⟩) rfl
    · exact m.sep f (List.mem_cons_of_mem _ hf) a ha z
  · have hf : f < r.length := lk_lt e1
    have e1 : lk r f n = some a := e1
    have q := m.cel f n a c (by show lk (fr :: r) f n = some a; unfold lk; rw [if_neg (Nat.ne_of_lt hf), e1]) (by unfold lk; rw [if_neg (by rw [← el]; exact Nat.ne_of_lt hf), e2])
    have b := m.bel f n c (by unfold lk; rw [if_neg (by rw [← el]; exact Nat.ne_of_lt hf), e2])
    cases c with
    | lst xs =>
      obtain ⟨vs, e, hl, hr⟩ := q
      have b : belowAll (f + 1) xs = true := b
      refine ⟨vs, e, hl, repAll_pop hh xs vs ?_ hr⟩
      rw [belowAll_mem] at b ⊢
      exact fun x hx => below_mono x (by omega) (b x hx)
    | dct _ _ => exact q.elim
  · have hf := lk_lt e2
    exact m.bel f n c (by unfold lk; rw [if_neg (Nat.ne_of_lt hf), e2])
  · rcases hh a ha with z | z
    · exact m.live List.mem_cons_self z
    · exact m.hd a z
theorem grow_pop {hid hid' : Addr → Prop} {fr : List Addr} {r r' : List (List Addr)} {H' : Hp} (g : Grow ⟨[] :: r, hid⟩ H ⟨fr :: r', hid'⟩ H') : r' = r ∧ Grow ⟨r, hid⟩ H ⟨r, hid'⟩ H' := by
  obtain ⟨⟨b, e, hb⟩, h1, h2, h3, h4, h5, h6⟩ := g
  simp only [exts, List.nil_append, List.cons.injEq] at e
  refine ⟨e.2, ⟨⟨[], exts_nil.symm, by simp⟩, h1, h2, fun a o ho => h3 a o ⟨fun f hf => ?_, ho.2⟩, fun f hf => h4 f (List.mem_cons_of_mem _ hf), h5, h6⟩⟩
  rcases List.mem_cons.mp hf with e | hf
  · rw [e]; simp
  · exact ho.1 f hf
/-- reading the live objects of a frame off -/
theorem mapM_frz {f : Val → Option Val} {μ' : Mu} (hf : ∀ v x w, Rep K H μ v x → f v = some w → Rep K H μ' w x) : ∀ (v : List Val) (x : List V) (ws : List Val), RepAll K H μ v x → v.mapM f = some ws → RepAll K H μ' ws x
  | [], x, ws, h, e => by
    unfold RepAll at h
    have : ws = [] := by simpa using e.symm
    rw [h, this]; exact .nil
  | v :: vs, x, ws, h, e => by
    unfold RepAll at h
    obtain ⟨w, us, e1, h1, h2⟩ := h
    obtain ⟨y, r, e2, e3, e4⟩ := mapM_cons e
    rw [e1, e2]
    exact .cons (hf v w y h1 e3) (mapM_frz hf vs us r h2 e4)
theorem frz_rep {hid : Addr → Prop} {fr : List Addr} {r : List (List Addr)} {cs : List Cell} {s : S} (m : Mem K H ⟨fr :: r, hid⟩ (cs :: s)) : ∀ (k : Nat) (v : Val) (x : V) (w : Val), Rep K H ⟨fr :: r, hid⟩ v x → frz s.length cs k v = some w → Rep K H ⟨r, hid⟩ w x := by
  have sh := m.shp
  simp only [List.map_cons, List.cons.injEq] at sh
  have el : r.length = s.length := by have := congrArg List.length sh.2; simpa using this
  intro k
  induction k with
  | zero =>
    intro v x w h e
    unfold frz at e
    split at e
    · rename_i hb; cases e; exact rep_pop (fun _ q => .inr q) v x (by rw [el]; exact hb) h
    · cases e
  | succ k ih =>
    intro v x w h e
    unfold frz at e
    split at e
    · rename_i hb; cases e; exact rep_pop (fun _ q => .inr q) v x (by rw [el]; exact hb) h
    · split at e
      · rename_i f n _
        split at e
        · rename_i ef
          unfold Rep at h
          obtain ⟨a, ea, ela⟩ := h
          split at e
          · rename_i xs ex
            have e2 : lk (cs :: s) f n = some (.lst xs) := by unfold lk; rw [if_pos ef, ex]
            obtain ⟨vs, hv, hl, hr⟩ := m.cel f n a _ ela e2
            cases em : List.mapM (frz s.length cs k) xs with
            | none => rw [em] at e; cases e
            | some ws =>
              rw [em] at e
              cases e
              unfold Rep
              refine ⟨a, vs, ea, hv, ⟨fun g hg ha => ?_, ?_⟩, hl, mapM_frz ih xs vs ws hr em⟩
              · have nd := m.nd
                simp only [List.flatten_cons, List.nodup_append] at nd
                unfold lk at ela
                rw [if_pos (ef.trans el.symm)] at ela
                exact nd.2.2 a (List.mem_of_getElem? ela) a (List.mem_flatten.mpr ⟨g, hg, ha⟩) rfl
              · obtain ⟨g, hg, ha⟩ := lk_mem ela
                exact m.sep g hg a ha
          · cases e
        · cases e
      · rename_i xs _
        unfold Rep at h
        obtain ⟨a, vs, ea, hq, hl, hr⟩ := h
        cases em : List.mapM (frz s.length cs k) xs with
        | none => rw [em] at e; cases e
        | some ws =>
          rw [em] at e
          cases e
          unfold Rep
          exact ⟨a, vs, ea, hq, hl, mapM_frz ih xs vs ws hr em⟩
      · rename_i xs _
        unfold Rep at h
        obtain ⟨a, vs, ea, hq, ho, hl, hr⟩ := h
        cases em : List.mapM (frz s.length cs k) xs with
        | none => rw [em] at e; cases e
        | some ws =>
          rw [em] at e
          cases e
          unfold Rep
          exact ⟨a, vs, ea, hq, ⟨fun f hf => ho.1 f (List.mem_cons_of_mem _ hf), ho.2⟩, hl, mapM_frz ih xs vs ws hr em⟩
      · cases e
end
/-- a start of a body: where the def is entered -/
def BI (k : Nat) (qual : PySem.Str) (sc : Scope) (f : Addr) (cdv : Value) : Type := {i : Around × List PySem.Env × Shared × Hp // Room k (i.1.deeper (envOfC qual sc i.2.2.1.heap.objs.size f cdv)) ∧ i.1.guards = some []}
def bX (P : Program) (w : World) (K : PySem.W.Frag) (mg : PySem.Str → Option Value) (base : Heap) (k : Nat) (N : List PySem.Str) (qual : PySem.Str) (sc : Scope) (f : Addr) (cdv : Value) (E : XK) (i : BI k qual sc f cdv) : Cx :=
  (cxOf CX0 P w K mg base N qual sc f cdv i.1.1 i.1.2.1 i.1.2.2.1 i.1.2.2.2 E).nox
theorem p0 {X : Cx} {E : XK} : Passes CX0 X E := fun _ _ _ _ _ _ _ h => h.elim
section
variable {P : Program} {w : World} {K : PySem.W.Frag} {mg : PySem.Str → Option Value} {base : Heap} {k : Nat} {f : Addr} {qual : PySem.Str} {sc : Scope} {cdv : Value} {N ps : List PySem.Str} {E : XK}
theorem bX_cx (SC : FnScope N ps sc) : CxG (bX P w K mg base k N qual sc f cdv E) K k :=
  ⟨⟨fun _ => rfl, fun _ => SC.nd, fun i => by have := i.2.1.un; show (i.1.1.deeper _).units + 100 < _; omega, fun _ => rfl⟩, fun i => i.2.2, fun i => i.2.1⟩
theorem sr_start {H : Hp} {μ : Mu} : ∀ {args : List Val} {vs : List V} (n : Nat), RepAll K H μ args vs → SR K H μ (args.map some ++ List.replicate n none) (vs.map some ++ List.replicate n none) := by
  intro args vs n r
  refine ⟨by simp [r.length], fun i v e => ?_⟩
  by_cases hi : i < args.length
  · have hi' : i < vs.length := r.length.symm ▸ hi
    rw [List.getElem?_append_left (by simpa using hi), List.getElem?_map] at e
    rw [List.getElem?_append_left (by simpa using hi'), List.getElem?_map]
    cases ea : args[i]? with
    | none => rw [ea] at e; cases e
    | some u =>
      rw [ea] at e
      cases e
      obtain ⟨y, h1, h2⟩ := r.get ea
      exact ⟨y, by rw [h1]; rfl, h2⟩
  · rw [List.getElem?_append_right (by simpa using hi), List.getElem?_replicate] at e
    split at e <;> cases e
/-- what a body's mirror says of a call -/
theorem body_done {mb : Sx} {n np : Nat} {μ : Mu} {H : Hp} {Q : VK} {args : List Val} {s : S} (hq : (mkFn n np mb args s).wp (RtP K μ H Q) (XP K μ H E)) :
    args.length = np ∧ SW K ⟨[] :: μ.fr, μ.hid⟩ H { nx := fun _ H' => Q .non H', rt := Q } E (mb (args.map some ++ List.replicate (n - np) none) ([] :: s)) := by
  unfold mkFn at hq
  split at hq
  · rename_i hl
    refine ⟨hl, ?_⟩
    have fin : ∀ (v : Val) (s1 : S), (finish v s1).wp (RtP K μ H Q) (XP K μ H E) → VP K ⟨[] :: μ.fr, μ.hid⟩ H Q v s1 := by
      intro v s1 h x H' μ' g m r
      obtain ⟨fr0, hid'⟩ := μ'
      cases s1 with
      | nil => exact False.elim h
      | cons cs r1 =>
        have sh := m.shp
        cases fr0 with
        | nil => simp at sh
        | cons fr rr =>
          obtain ⟨er, _⟩ := grow_pop g
          subst er
          have g' : Grow μ H μ H' := by
            obtain ⟨b, e, hb⟩ := g.ext
            exact ⟨⟨[], exts_nil.symm, by simp⟩, fun x hx => .inr hx, fun x hx => hx, fun a o ho => g.kp a o ⟨fun q hq => by
              rcases List.mem_cons.mp hq with e | hq
              · rw [e]; simp
              · exact ho.1 q hq, ho.2⟩, fun q hq => g.lv q (List.mem_cons_of_mem _ hq), g.hk, g.tk⟩
          have hsub : ∀ x, μ.hid x → x ∈ fr ∨ hid' x := fun x hx => .inr (g.hs x hx)
          have m' : Mem K H' μ r1 := mem_pop (hid' := μ.hid) hsub m
          have h : (ofO (retOf r1.length cs v) r1).wp (RtP K μ H Q) (XP K μ H E) := h
          cases er : retOf r1.length cs v with
          | none => rw [er] at h; exact False.elim h
          | some q =>
            rw [er] at h
            have h : RtP K μ H Q q r1 := h
            have frzQ : ∀ u, frz r1.length cs 8 v = some u → RtP K μ H Q (.val u) r1 → Q x H' := fun u eu h => by
              refine h x H' g' m' ?_
              have q := frz_rep m 8 v x u r eu
              exact Rep.sub (μ := ⟨μ.fr, hid'⟩) (μ' := μ) (fun _ _ _ e => e) (fun b hb => ⟨hb.1, fun z => hb.2 (g.hs b z)⟩) u x q
            unfold retOf at er
            split at er
            · rename_i f n
              split at er
              · rename_i ef
                split at er
                · rename_i xs ex
                  split at er
                  · rename_i hb
                    cases er
                    unfold Rep at r
                    obtain ⟨a, ea, la⟩ := r
                    subst ea
                    have e2 : lk (cs :: r1) f n = some (.lst xs) := by unfold lk; rw [if_pos ef, ex]
                    obtain ⟨vs, hv, hl, hr⟩ := m.cel f n a _ la e2
                    have el : μ.fr.length = r1.length := by have := congrArg List.length m'.shp; simpa using this
                    have afr : a ∈ fr := by
                      unfold lk at la
                      rw [if_pos (ef.trans el.symm)] at la
                      exact List.mem_of_getElem? la
                    have hH : H a = none := by
                      obtain ⟨b, e, hb⟩ := g.ext
                      simp only [exts, List.nil_append, List.cons.injEq] at e
                      exact hb a (e.1 ▸ afr)
                    have ahid : ¬ μ.hid a := fun z => by
                      have := m.sep fr List.mem_cons_self a afr
                      exact this (g.hs a z)
                    refine h a vs H' ⟨⟨[], exts_nil.symm, by simp⟩, fun x hx => hx.elim (fun z => .inl (z ▸ hH)) .inr, fun x hx => .inr hx, g'.kp, g'.lv, g'.hk, g'.tk⟩ ?_ hH ahid hv hl ?_
                    · exact mem_pop (hid' := (μ.hide a).hid) (fun x hx => hx.elim (fun z => .inl (z ▸ afr)) fun z => .inr (g.hs x z)) m
                    · exact repAll_pop (hid' := (μ.hide a).hid) (fun x hx => hx.elim (fun z => .inl (z ▸ afr)) fun z => .inr (g.hs x z)) xs vs (by rw [el]; exact hb) hr
                  · cases ef8 : frz r1.length cs 8 (.ref f n) with
                    | none => rw [ef8] at er; cases er
                    | some u => rw [ef8] at er; cases er; exact frzQ u ef8 h
                · cases er
              · rename_i ef
                cases er
                refine h x H' g' m' ?_
                unfold Rep at r ⊢
                obtain ⟨a, ea, la⟩ := r
                have el : μ.fr.length = r1.length := by have := congrArg List.length m'.shp; simpa using this
                unfold lk at la
                rw [if_neg (by show ¬ f = μ.fr.length; rw [el]; exact ef)] at la
                exact ⟨a, ea, la⟩
            · cases ef8 : frz r1.length cs 8 v with
              | none => rw [ef8] at er; cases er
              | some u => rw [ef8] at er; cases er; exact frzQ u ef8 h
    unfold SW
    cases e : mb (args.map some ++ List.replicate (n - np) none) ([] :: s) with
    | nx ρ s1 =>
      rw [e] at hq
      intro σ H' μ' g m r
      exact fin .non s1 hq .non H' μ' g m (by unfold Rep; rfl)
    | rt v s1 => rw [e] at hq; exact fin v s1 hq
    | bk ρ s1 => rw [e] at hq; exact False.elim hq
    | ct ρ s1 => rw [e] at hq; exact False.elim hq
    | ex e1 s1 => rw [e] at hq; exact False.elim hq
    | no => rw [e] at hq; exact False.elim hq
  · exact False.elim hq
/-- the code object of the def at f -/
def Cdv (K : PySem.W.Frag) (f : Addr) (cdv : Value) : Prop := ∃ (oc : Value) (od : Option Addr) (fd : FuncData) (osl : Array (Option Value)), K.lookup f = some ⟨oc, od, .func fd, osl⟩ ∧ fd.code = cdv
/-- THE BODY: a def whose body has a sound mirror keeps the mirror's promise -/
theorem fn_MC {x : PySem.Str} {st : Stmt} {fd : FuncData} {mb : Sx} {n np : Nat} (F : L2.Fun K x qual st f fd) (SC : FnScope N ps (defScope st)) (hnp : ps.length = np) (hN : N.length = n)
    (hbody : ∀ (cdv : Value) (E : XK), Cdv K f cdv → MSs (bX P w K mg base k N qual (defScope st) f cdv E) K E (defBody st) mb) : FnG P w K mg base CX0 (k + 1) f fd ps (spOf K np (mkFn n np mb)) := by
  obtain ⟨oc, od, kV, doc, pm, an, cdv, ct, osl, rfl, lk, hcd⟩ := F.ex
  have len : ∀ vs H Q E, spOf K np (mkFn n np mb) vs H Q E → vs.length = ps.length := fun vs H Q E h => h.1.trans hnp.symm
  refine ⟨len, fun A outer s H args us vs Q E hr hgd e0 hb r hsp => ?_⟩
  have hl := len _ _ _ _ hsp
  have inK : K.In s.heap := e0.mod.kin.keeps fun b o e => (e0.bs b o e).1
  have noL : s.heap.NoLimit := e0.mod.nolimit.keeps fun b o e => (e0.bs b o e).1
  have kinds : ∀ y ∈ ps.zip us, (defScope st).names.lookup y.1 = some .local ∨ ((defScope st).names.lookup y.1 = some .cell ∧ ((cellsFrom (s.heap.objs.size + 1) (defScope st).names []).lookup y.1).isSome = true) := by
    intro y hy
    exact (SC.par y.1 (List.of_mem_zip (a := y.1) (b := y.2) hy).1).imp id fun q => ⟨q, PySem.W.cellsFrom_some _ _ _ (.inl q)⟩
  refine codeAny_call_function hr.depth (inK _ _ lk) rfl SC.co SC.gen rfl (PySem.W.codeRec_of inK hcd) (hb _ _ _ _ ?_)
  refine wpAny_newFunctionEnv_cells SC.kind kinds fun env he s1 x => ?_
  subst he
  refine ⟨noL.keeps x.toInCall.keep, codeAny_func ?_⟩
  obtain ⟨_, μ, sM, as, mem, rep, hq⟩ := hsp
  obtain ⟨el, hsw⟩ := body_done hq
  obtain ⟨t, ht, hs⟩ := (hbody cdv E ⟨_, _, _, _, lk, rfl⟩).ex
  have I := inv_start SC hr.hd e0 hl r x (CX := CX0) (E := E) (N := N)
  have hstart : L2.start N vs = vs.map some ++ List.replicate (n - np) none := by
    unfold L2.start
    rw [hN, hl, hnp]
  have q := hs (L2.start N vs) H _ ⟨[] :: μ.fr, μ.hid⟩ ([] :: sM) _ (hstart ▸ sr_start _ (repAll_push μ.hid rep)) (mem_push mem) hsw
  refine wpAny_mono ((ht ⟨⟨A, outer, s, H⟩, hr.deeper _, hgd⟩).nox.run [] s1 (L2.start N vs) H _ I q) (fun fl s' hs => ?_) fun e s' hs => hs
  cases fl with
  | ret u =>
    obtain ⟨v, σ', H', J, rv, q⟩ := hs
    exact ⟨v, H', J.os, J.bare, J.base, J.hok, rv, q⟩
  | next =>
    obtain ⟨σ', H', J, q⟩ := hs
    exact ⟨.non, H', J.os, J.bare, J.base, J.hok, rfl, q⟩
  | brk => exact (let ⟨_, _, _, q⟩ := hs; False.elim q)
  | cont => exact (let ⟨_, _, _, q⟩ := hs; False.elim q)
theorem fn_M {x : PySem.Str} {st : Stmt} {fd : FuncData} {mb : Sx} {n np : Nat} (F : L2.Fun K x qual st f fd) (SC : FnScope N ps (defScope st)) (hnp : ps.length = np) (hN : N.length = n)
    (hbody : ∀ (cdv : Value) (E : XK), MSs (bX P w K mg base k N qual (defScope st) f cdv E) K E (defBody st) mb) : FnG P w K mg base CX0 (k + 1) f fd ps (spOf K np (mkFn n np mb)) :=
  fn_MC F SC hnp hN fun cdv E _ => hbody cdv E
end
/-- a def of the text, with its promise -/
def Has (P : Program) (w : World) (K : PySem.W.Frag) (mg : PySem.Str → Option Value) (base : Heap) (k : Nat) (x : PySem.Str) (ps : List PySem.Str) (np : Nat) (m : Fn) : Prop :=
  ∃ (f : Addr) (fd : FuncData), mg x = some (.ref f) ∧ PySem.W.keepIn K (.ref f) = true ∧ Binds K fd ps [] ∧ FnG P w K mg base CX0 k f fd ps (spOf K np m)
end FM

set_option autoImplicit false
/-! walks that hand out pairs -/
namespace FM
open PySem PySem.Spec PyProof.Rows L2
variable [Tbl]
section
variable {ι : Type} {X : ι → Cx} {K : PySem.W.Frag} {EW : XK} {a b : Expr} {ma mb : Ex} {pos p tpos : Pos} {elts : List Expr} {kk : Nat}
theorem yields_enum {H0 : Hp} {μ0 : Mu} {xs : List Val} {keep : S → Bool} {q : Addr} (hl : xs.length ≤ sizeLine)
    (h : ∀ H μ s, Grow μ0 H0 μ H → Mem K H μ s → keep s = true → ∃ vs, SqL K H q vs ∧ RepAll K H μ xs vs) : Yields K (Ite K q) H0 μ0 true ((xs.zipIdx).map fun p => .tup [.int p.2, p.1]) keep := by
  refine ⟨by simpa using hl, fun H μ s i g m k hi => ?_, fun H μ s g m k => ?_, fun H μ s i v x H' g m k hv y => ?_⟩
  · obtain ⟨vs, hs, hr⟩ := h H μ s g m k
    exact ⟨vs, vs[i]'(by rw [hr.length]; simpa using hi), hs, List.getElem?_eq_getElem _⟩
  · obtain ⟨vs, hs, hr⟩ := h H μ s g m k
    exact ⟨vs, hs, by rw [hr.length]; simp⟩
  · obtain ⟨vs, hs, hr⟩ := h H μ s g m k
    obtain ⟨T, w, e, hT, e', hx⟩ := y
    subst e'
    have hw := hx vs hs
    have hv' : ∃ u, xs[i]? = some u ∧ v = .tup [.int i, u] := by
      simp only [List.getElem?_map, List.getElem?_zipIdx, Option.map_map, Option.map_eq_some_iff] at hv
      obtain ⟨u, hu, e⟩ := hv
      exact ⟨u, hu, by rw [← e]; simp⟩
    obtain ⟨u, hu, rfl⟩ := hv'
    obtain ⟨w', hw', rw'⟩ := hr.get hu
    have ew : w' = w := Option.some.inj (hw'.symm.trans hw)
    subst ew
    have g2 := m.new (o := .tup [.int (i : Nat), w']) hT
    refine ⟨g2, m.upd_new hT, [.int i, u], T, [.int (i : Nat), w'], rfl, e, .inl (.inl upd_same), .cons rep_of_int (.cons (Rep.mono g2 m u w' rw') .nil)⟩
/-- a list that is walked stands while it is still the same -/
theorem src_list {H1 : Hp} {μ1 : Mu} {s1 : S} {v : Val} {x : V} {xs : List Val} (m1 : Mem K H1 μ1 s1) (r1 : Rep K H1 μ1 v x) (ea : asL s1 v = some xs) :
    ∃ q vs, x = .ref q ∧ SqL K H1 q vs ∧ xs.length ≤ sizeLine ∧ ∀ H2 μ2 s2, Grow μ1 H1 μ2 H2 → Mem K H2 μ2 s2 → still v xs s2 = true → ∃ vs, SqL K H2 q vs ∧ RepAll K H2 μ2 xs vs := by
  obtain ⟨q, vs, eq, hq, hl, hrr⟩ := rep_asL m1 r1 ea
  refine ⟨q, vs, eq, hq, by rw [← hrr.length]; exact hl, fun H2 μ2 s2 g2 m2 k => ?_⟩
  have ek : asL s2 v = some xs := by
    cases v with
    | ref f n =>
      have k : (match lk s2 f n with | some (.lst ys) => beqVs ys xs | _ => false) = true := k
      split at k
      · rename_i ys e
        simp only [asL, e, beqVs_eq _ _ k]
      · cases k
    | lst ys => exact ea
    | scr ys => exact ea
    | _ => cases ea
  obtain ⟨q', vs', eq', hq', _, hrr'⟩ := rep_asL m2 (Rep.mono g2 m1 _ _ r1) ek
  rw [eq] at eq'
  cases eq'
  exact ⟨vs', hq', hrr'⟩
/-- enumerate(a list) -/
def iEnumL (a : Ex) : Ix := fun ρ s => (a ρ s).bind fun x s1 => match asL s1 x with
  | some xs => .ok ((xs.zipIdx).map fun p => .tup [.int p.2, p.1], still x xs) s1
  | none => .no
theorem mi_enumL (c : CxF X K) (hg : ∀ i, Gl (X i) "enumerate") (hm : ∀ i, (X i).mg "enumerate" = none) (ha : ME X K EW a ma) (hs : ∀ i, starEach [a] (X i).env = (false, eval a (X i).env) :: starEach [] (X i).env := by intro _; rfl) (hs2 : ∀ i, starEach [a] (X i).env = [(false, eval a (X i).env)] := by intro _; rfl) :
    MI X K EW (.Tuple elts kk tpos) (.Call (.Name "enumerate" p) [a] [] pos) (iEnumL ma) true := by
  obtain ⟨ta, pa, sa⟩ := ha.ex
  refine ⟨⟨L2.iEnum K (tCons ta tNil), fun i => c.kk i ▸ pi_enum (hg i) (hm i) (pa_cons (pa i) pa_nil (hs i)) (hs2 i), fun σ H ρ μ s R hr m h => ?_⟩⟩
  refine sa σ H ρ μ s _ hr m (wp_mono (wp_bind h) (fun v s1 h1 => ?_) fun _ _ q => q)
  intro x H1 μ1 g1 m1 r1
  cases ea : asL s1 v with
  | none => rw [ea] at h1; exact False.elim h1
  | some xs =>
    rw [ea] at h1
    obtain ⟨q, vs, eq, hq, hl, st⟩ := src_list m1 r1 ea
    exact ⟨q, vs, by rw [eq], hq, h1 (Ite K q) H1 μ1 g1 m1 (yields_enum hl st)⟩
theorem zip_pair {xs ys : List Val} {i : Nat} {v : Val} (hv : ((xs.zip ys).map fun p => Val.tup [p.1, p.2])[i]? = some v) : ∃ u w, xs[i]? = some u ∧ ys[i]? = some w ∧ v = .tup [u, w] := by
  rw [List.getElem?_map, Option.map_eq_some_iff] at hv
  obtain ⟨⟨u, w⟩, hu, e⟩ := hv
  obtain ⟨h1, h2⟩ := List.getElem?_zip_eq_some.mp hu
  exact ⟨u, w, h1, h2, e.symm⟩
theorem yields_zip {H0 : Hp} {μ0 : Mu} {xs ys : List Val} {k1 k2 : S → Bool} {q r : Addr} (hl : xs.length ≤ sizeLine)
    (hx : ∀ H μ s, Grow μ0 H0 μ H → Mem K H μ s → k1 s = true → ∃ vs, SqL K H q vs ∧ RepAll K H μ xs vs) (hy : ∀ H μ s, Grow μ0 H0 μ H → Mem K H μ s → k2 s = true → ∃ vs, SqL K H r vs ∧ RepAll K H μ ys vs) :
    Yields K (Itz K q r) H0 μ0 true ((xs.zip ys).map fun p => .tup [p.1, p.2]) (fun s => k1 s && k2 s) := by
  refine ⟨by simp only [List.length_map, List.length_zip]; omega, fun H μ s i g m k hi => ?_, fun H μ s g m k => ?_, fun H μ s i v x H' g m k hv y => ?_⟩
  all_goals
    simp only [Bool.and_eq_true] at k
    obtain ⟨vs, hs, hr⟩ := hx H μ s g m k.1
    obtain ⟨ws, ht, hr'⟩ := hy H μ s g m k.2
  · simp only [List.length_map, List.length_zip] at hi
    exact ⟨vs, ws, vs[i]'(by rw [hr.length]; omega), ws[i]'(by rw [hr'.length]; omega), hs, ht, List.getElem?_eq_getElem _, List.getElem?_eq_getElem _⟩
  · refine ⟨vs, ws, hs, ht, ?_⟩
    rw [hr.length, hr'.length]
    simp only [List.length_map, List.length_zip]
    omega
  · obtain ⟨T, w, w2, e, hT, e', h1, h2⟩ := y
    subst e'
    obtain ⟨u, z, hu, hz, rfl⟩ := zip_pair hv
    obtain ⟨w', hw', rw'⟩ := hr.get hu
    obtain ⟨z', hz', rz'⟩ := hr'.get hz
    have ew : w' = w := Option.some.inj (hw'.symm.trans (h1 vs hs))
    have ez : z' = w2 := Option.some.inj (hz'.symm.trans (h2 ws ht))
    subst ew
    subst ez
    have g2 := m.new (o := .tup [w', z']) hT
    exact ⟨g2, m.upd_new hT, [u, z], T, [w', z'], rfl, e, .inl (.inl upd_same), .cons (Rep.mono g2 m u w' rw') (.cons (Rep.mono g2 m z z' rz') .nil)⟩
theorem src_tup {H1 : Hp} {μ1 : Mu} {xs : List Val} {x : V} {s1 : S} (m1 : Mem K H1 μ1 s1) (r1 : Rep K H1 μ1 (.tup xs) x) :
    ∃ q vs, x = .ref q ∧ SqT K H1 q vs ∧ xs.length ≤ sizeLine ∧ ∀ H2 μ2, Grow μ1 H1 μ2 H2 → ∃ vs, SqT K H2 q vs ∧ RepAll K H2 μ2 xs vs := by
  obtain ⟨q, vs, eq, hq, hl, hrr⟩ := rep_tup r1
  refine ⟨q, vs, eq, hq.sqT, by rw [← hrr.length]; exact hl, fun H2 μ2 g2 => ?_⟩
  obtain ⟨q', vs', eq', hq', _, hrr'⟩ := rep_tup (Rep.mono g2 m1 _ _ r1)
  rw [eq] at eq'
  cases eq'
  exact ⟨vs', hq'.sqT, hrr'⟩
theorem yields_zipT {H0 : Hp} {μ0 : Mu} {xs ys : List Val} {q r : Addr} (hl : xs.length ≤ sizeLine)
    (hx : ∀ H μ, Grow μ0 H0 μ H → ∃ vs, SqT K H q vs ∧ RepAll K H μ xs vs) (hy : ∀ H μ, Grow μ0 H0 μ H → ∃ vs, SqT K H r vs ∧ RepAll K H μ ys vs) :
    Yields K (RZ.ItzT K q r) H0 μ0 true ((xs.zip ys).map fun p => .tup [p.1, p.2]) (fun _ => true) := by
  refine ⟨by simp only [List.length_map, List.length_zip]; omega, fun H μ s i g m k hi => ?_, fun H μ s g m k => ?_, fun H μ s i v x H' g m k hv y => ?_⟩
  all_goals
    obtain ⟨vs, hs, hr⟩ := hx H μ g
    obtain ⟨ws, ht, hr'⟩ := hy H μ g
  · simp only [List.length_map, List.length_zip] at hi
    exact ⟨vs, ws, vs[i]'(by rw [hr.length]; omega), ws[i]'(by rw [hr'.length]; omega), hs, ht, List.getElem?_eq_getElem _, List.getElem?_eq_getElem _⟩
  · refine ⟨vs, ws, hs, ht, ?_⟩
    rw [hr.length, hr'.length]
    simp only [List.length_map, List.length_zip]
    omega
  · obtain ⟨T, w, w2, e, hT, e', h1, h2⟩ := y
    subst e'
    obtain ⟨u, z, hu, hz, rfl⟩ := zip_pair hv
    obtain ⟨w', hw', rw'⟩ := hr.get hu
    obtain ⟨z', hz', rz'⟩ := hr'.get hz
    have ew : w' = w := Option.some.inj (hw'.symm.trans (h1 vs hs))
    have ez : z' = w2 := Option.some.inj (hz'.symm.trans (h2 ws ht))
    subst ew
    subst ez
    have g2 := m.new (o := .tup [w', z']) hT
    exact ⟨g2, m.upd_new hT, [u, z], T, [w', z'], rfl, e, .inl (.inl upd_same), .cons (Rep.mono g2 m u w' rw') (.cons (Rep.mono g2 m z z' rz') .nil)⟩
/-- zip of two lists, of two tuples -/
def zipV (s : S) (x y : Val) : Option (List Val × (S → Bool)) := match asT x, asT y with
  | some xs, some ys => some ((xs.zip ys).map fun p => .tup [p.1, p.2], fun _ => true)
  | none, none => match asL s x, asL s y with
    | some xs, some ys => some ((xs.zip ys).map fun p => .tup [p.1, p.2], fun s => still x xs s && still y ys s)
    | _, _ => none
  | _, _ => none
def iZip2 (a b : Ex) : Ix := fun ρ s => (a ρ s).bind fun x s1 => (b ρ s1).bind fun y s2 => ofO (zipV s2 x y) s2
theorem asT_some {v : Val} {xs : List Val} (h : asT v = some xs) : v = .tup xs := by
  cases v <;> simp [asT] at h
  rw [h]
theorem mi_zip2 (c : CxF X K) (hg : ∀ i, Gl (X i) "zip") (hm : ∀ i, (X i).mg "zip" = none) (ha : ME X K EW a ma) (hb : ME X K EW b mb) (hs : ∀ i, starEach [a, b] (X i).env = (false, eval a (X i).env) :: starEach [b] (X i).env := by intro _; rfl)
    (hs2 : ∀ i, starEach [b] (X i).env = (false, eval b (X i).env) :: starEach [] (X i).env := by intro _; rfl) (hpl : ∀ i, (backTo pos (starEach [b] (X i).env)).any (·.1) = false := by intro _; rfl) :
    MI X K EW (.Tuple elts kk tpos) (.Call (.Name "zip" p) [a, b] [] pos) (iZip2 ma mb) true := by
  obtain ⟨ta, pa, sa⟩ := ha.ex
  obtain ⟨tb, pb, sb⟩ := hb.ex
  refine ⟨⟨RZ.iZipA K (tCons ta (tCons tb tNil)), fun i => c.kk i ▸ RZ.pi_zipA (hg i) (hm i) (pa_cons (pa i) (pa_cons (pb i) pa_nil (hs2 i)) (hs i)) (hs i) (hpl i), fun σ H ρ μ s R hr m h => ?_⟩⟩
  refine sa σ H ρ μ s _ hr m (wp_mono (wp_bind h) (fun v s1 h1 => ?_) fun _ _ q => q)
  intro x H1 μ1 g1 m1 r1
  refine sb σ H1 ρ μ1 s1 _ (hr.mono g1 m) m1 (wp_mono (wp_bind h1) (fun u s2 h2 => ?_) fun _ _ q => q.mono g1)
  intro y H2 μ2 g2 m2 r2
  obtain ⟨z, e, q⟩ := wp_ofO h2
  have r1 := Rep.mono g2 m1 v x r1
  have g12 := g1.trans g2
  unfold zipV at e
  split at e
  · rename_i xs ys e1 e2
    cases e
    rw [asT_some e1] at r1
    rw [asT_some e2] at r2
    obtain ⟨p1, vs, ex, hq, hl, st⟩ := src_tup m2 r1
    obtain ⟨p2, ws, ey, hq2, _, st2⟩ := src_tup m2 r2
    exact ⟨p1, p2, vs, ws, by rw [ex, ey], .inr ⟨hq, hq2, q (RZ.ItzT K p1 p2) H2 μ2 g12 m2 (yields_zipT hl st st2)⟩⟩
  · split at e
    · rename_i xs ys e1 e2
      cases e
      obtain ⟨p1, vs, ex, hq, hl, st⟩ := src_list m2 r1 e1
      obtain ⟨p2, ws, ey, hq2, _, st2⟩ := src_list m2 r2 e2
      exact ⟨p1, p2, vs, ws, by rw [ex, ey], .inl ⟨hq, hq2, q (Itz K p1 p2) H2 μ2 g12 m2 (yields_zip hl st st2)⟩⟩
    · cases e
  · cases e
end
end FM

set_option autoImplicit false
/-! enumerate and zip of lists and tuples in any mix -/
namespace FM
open PySem PySem.Spec PyProof.Rows L2
variable [Tbl]
/-- the sequence at a: a tuple (k), a list -/
def SqB (K : PySem.W.Frag) (k : Bool) (H : Hp) (a : Addr) (xs : List V) : Prop := match k with
  | true => SqT K H a xs
  | false => SqL K H a xs
def ItB (k : Bool) (h : Heap) (it a : Addr) (i : Nat) : Prop := match k with
  | true => h.IsTupleIter it a i
  | false => h.IsListIter it a i
def IsB (k : Bool) (h : Heap) (a : Addr) (its : Array Value) : Prop := match k with
  | true => h.IsTuple a its
  | false => h.IsList a its
def obB (k : Bool) (a : Addr) : Obj := match k with
  | true => ⟨.type "tuple_iterator", none, .fields #[.ref a, .int 0 0], #[]⟩
  | false => ⟨.type "list_iterator", none, .fields #[.ref a, .int 0 0], #[]⟩
theorem drawsB {P : Program} {w : World} {A : Around} (hh : A.handled = none) (k : Bool) {it a : Addr} (ne : a ≠ it) (its : Array Value) :
    Draws P w A it [it, a] its.size (fun i v => its[i]? = some v) (fun i h => ItB k h it a i ∧ IsB k h a its) := by
  cases k
  · exact Draws.list hh it a ne its
  · exact Draws.tuple hh it a ne its
theorem beginsB (k : Bool) (a : Addr) (its : Array Value) : Begins (.ref a) (obB k a) fun h => IsB k h a its := by
  cases k
  · exact begins_list a its
  · exact begins_tuple a its
theorem itB_new (k : Bool) {h : Heap} {it a : Addr} (e : h.get? it = some (obB k a)) : ItB k h it a 0 := by
  cases k
  · exact ⟨_, e, rfl, rfl⟩
  · exact ⟨_, e, rfl, rfl⟩
theorem itB_get {k : Bool} {h : Heap} {it a : Addr} {i : Nat} (q : ItB k h it a i) : ∃ (o : Obj) (vs : Array Value), h.get? it = some o ∧ o.data = .fields vs := by
  cases k
  · obtain ⟨o, e, _, d⟩ := q; exact ⟨o, _, e, d⟩
  · obtain ⟨o, e, _, d⟩ := q; exact ⟨o, _, e, d⟩
theorem itB_at {k : Bool} {h h2 : Heap} {it a : Addr} {i : Nat} (q : ItB k h it a i) (z : ∀ o, h.get? it = some o → h2.get? it = some o) : ItB k h2 it a i := by
  cases k
  · exact Heap.IsListIter.at q z
  · exact Heap.IsTupleIter.at q z
theorem isB_get {k : Bool} {h : Heap} {a : Addr} {its : Array Value} (q : IsB k h a its) : ∃ (o : Obj) (n : Nat), h.get? a = some o ∧ o.data = .seq its n := by
  cases k
  · obtain ⟨o, e, _, n, d⟩ := q; exact ⟨o, n, e, d⟩
  · obtain ⟨o, e, _, n, d⟩ := q; exact ⟨o, n, e, d⟩
theorem isB_apart {k : Bool} {h : Heap} {a b : Addr} {its : Array Value} {o : Obj} {vs : Array Value} (q : IsB k h a its) (e : h.get? b = some o) (d : o.data = .fields vs) : a ≠ b := fun z => by
  subst z
  obtain ⟨o2, n, e2, d2⟩ := isB_get q
  rw [e] at e2; cases e2
  rw [d] at d2; cases d2
theorem seqB {X : Cx} {pins : List (Addr × Obj)} {σ : L2.St} {H : Hp} {s : Shared} (I : Inv X pins σ H s) {k : Bool} {a : Addr} {xs : List V} (q : SqB X.K k H a xs) :
    ∃ us : List Value, Vals xs us ∧ IsB k s.heap a us.toArray := by
  cases k
  · obtain ⟨us, rv, p, _⟩ := I.list q; exact ⟨us, rv, p.isList⟩
  · obtain ⟨us, rv, p, _⟩ := I.tuple q; exact ⟨us, rv, p⟩
theorem seqB_inj {X : Cx} {pins : List (Addr × Obj)} {σ : L2.St} {H : Hp} {s : Shared} (I : Inv X pins σ H s) {k : Bool} {a : Addr} {xs ys : List V} (q : SqB X.K k H a xs) (z : SqB X.K k H a ys) : xs = ys := by
  cases k
  · exact I.list_inj q z
  · exact I.tuple_inj q z
/-- enumerate's pairs, each new -/
def ItE (K : PySem.W.Frag) (k : Bool) (a : Addr) : It where
  go i H := ∃ (xs : List V) (x : V), SqB K k H a xs ∧ xs[i]? = some x
  yld i H v H2 := ∃ T x, v = .ref T ∧ H T = none ∧ H2 = upd H T (.tup [.int (i : Nat), x]) ∧ ∀ xs, SqB K k H a xs → xs[i]? = some x
  stop i H := ∃ xs : List V, SqB K k H a xs ∧ xs.length = i
theorem turn_e {P : Program} {w : World} {K : PySem.W.Frag} {elts : List Expr} {kk : Nat} {tpos : Pos} (k : Bool) (a e it : Addr) :
    Turn P w K (.Tuple elts kk tpos) (ItE K k a) [e, it] e (fun i h => (∃ old, IsEnum h e it (0 + (i : Int)) old) ∧ ItB k h it a i ∧ e ≠ it) where
  mem := List.mem_cons_self
  obj := fun i h st b hb => by
    obtain ⟨⟨old, he⟩, q, _⟩ := st
    obtain ⟨o, vs, eo, d⟩ := itB_get q
    rcases List.mem_cons.mp hb with z | hb
    · rw [z]; exact ⟨_, he, fun v q => nomatch q⟩
    · rw [List.mem_singleton.mp hb]; exact ⟨o, eo, fun v q => by rw [d] at q; cases q⟩
  keep := fun i h h2 st z => ⟨st.1.imp fun old he => z e List.mem_cons_self _ he, itB_at st.2.1 fun o q => z it (by simp) o q, st.2.2⟩
  item := by
    intro X hP hw hK hc i pins s σ H E I hf st hg
    subst hP hw hK
    obtain ⟨⟨old, he⟩, hit, hne⟩ := st
    obtain ⟨xs, x, hq, hx⟩ := hg
    obtain ⟨us, rv, p⟩ := seqB I hq
    obtain ⟨oi, vi, ei, di⟩ := itB_get hit
    have a1 : a ≠ it := isB_apart p ei di
    have a2 : a ≠ e := isB_apart p he rfl
    have hlt : i < us.toArray.size := by
      obtain ⟨hi, _⟩ := List.getElem?_eq_some_iff.mp hx
      rw [List.size_toArray, ← rv.length]; exact hi
    have D := drawsB (P := X.prog) (w := X.w) (A := X.A.in1) (I.ok.hd hc) k a1 us.toArray
    have el : e < s.heap.objs.size := Heap.lt_size he
    refine wpAny_pyNext_enum_itemC (fp := [it, a]) D he ⟨hit, p⟩ hlt hne (by simp [hne, Ne.symm a2]) fun u h1 tk hu ho st1 hT hsz hk => ?_
    refine ⟨_, rfl, wpAny_letOwnedTupleGo_enum (s := { s with heap := h1, toks := tk + 1 }) ho fun h2 he2 sb => ?_⟩
    obtain ⟨u0, hu0, ru⟩ := rv.get hx
    have eu : u0 = u := by
      have : us[i]? = some u := by simpa using hu
      rw [hu0] at this; exact Option.some.inj this
    subst eu
    have T2 : h2.get? s.heap.objs.size = some { cls := .type "tuple", data := .seq #[.int (0 + (i : Int)) tk, u0] } := (sb.2 _ (Nat.ne_of_gt el)).trans hT
    rw [Int.zero_add] at T2
    have new : ObjOk X.prog X.w (upd H s.heap.objs.size (.tup [.int (i : Nat), x])) h2 s.heap.objs.size (.tup [.int (i : Nat), x]) :=
      ⟨show 2 ≤ sizeLine by decide, [.int (i : Nat) tk, u0], .cons ⟨_, rfl⟩ (.cons ru .nil), _, T2, rfl, _, rfl⟩
    have far : ∀ c o, c ∉ [e, it] → s.heap.get? c = some o → h2.get? c = some o := fun c o hc q =>
      (sb.2 c fun z => hc (by simp [z])).trans (hk c o (fun z => hc (by simp [z])) (fun z => hc (by simp [z])) q)
    have I1 : Inv X pins σ (upd H s.heap.objs.size (.tup [.int (i : Nat), x])) { s with heap := h2, toks := tk + 1 } := I.turnedNew (ch := [e, it]) far hf (Nat.le_refl _) new
    refine ⟨.ref s.heap.objs.size, _, I1, rfl, ⟨_, x, rfl, I.hok.fresh (Nat.le_refl _), rfl, fun ys hy => ?_⟩, ⟨⟨u0, ?_⟩, itB_at st1.1 fun o q => (sb.2 it (Ne.symm hne)).trans q, hne⟩, fun b hb => ?_⟩
    · rw [seqB_inj I hy hq]; exact hx
    · rw [show (0 : Int) + ((i + 1 : Nat) : Int) = 0 + (i : Int) + 1 by omega]; exact he2
    · have hb2 : b < s.heap.objs.size := by
        rcases List.mem_cons.mp hb with z | hb
        · rw [z]; exact el
        · rw [List.mem_singleton.mp hb]; exact Heap.lt_size ei
      rw [upd_ne (Nat.ne_of_lt hb2)]
      exact (hf b hb).1
  done := by
    intro X hP hw hK hc i pins s σ H E I hf st hg
    subst hP hw hK
    obtain ⟨⟨old, he⟩, hit, hne⟩ := st
    obtain ⟨xs, hq, hx⟩ := hg
    obtain ⟨us, rv, p⟩ := seqB I hq
    obtain ⟨oi, vi, ei, di⟩ := itB_get hit
    have a1 : a ≠ it := isB_apart p ei di
    have D := drawsB (P := X.prog) (w := X.w) (A := X.A.in1) (I.ok.hd hc) k a1 us.toArray
    have en : i = us.toArray.size := by rw [List.size_toArray, ← rv.length, hx]
    subst en
    exact wpAny_pyNext_enum_endD D he ⟨hit, p⟩ fun h1 far => ⟨rfl, I.turnedL (t' := s.toks) (ch := [e, it]) (fun c o hc q => far c o (fun z => hc (by simp [z])) q) hf⟩
  self := fun A i s Q E st h => by
    obtain ⟨⟨_, he⟩, _⟩ := st
    exact wpAny_pyIter_enum he h
/-- enumerate of one argument -/
theorem enum_new1 {v : Value} {o : Obj} {J : Heap → Prop} (B : Begins v o J) :
    Meets (Builtin.«enumerate.__new__» ⟨[.type "enumerate", v], []⟩) (fun _ R s => J s.heap ∧
      R (.ok (.ret (.ref (s.heap.push o).objs.size))) { s with heap := (s.heap.push o).push ⟨.type "enumerate", none, .fields #[.none, .bool false, .ref s.heap.objs.size, rawInt 0, .none, .none], #[]⟩ }) :=
  .of_wp fun P w A R s h => by
    obtain ⟨hp, g, d, tk, os⟩ := s; obtain ⟨h1, h⟩ := h
    have hsub := sub_enumerate
    have step : ∀ {A2 : Around} {E Q : Value → Shared → Prop}, Q (.ref hp.objs.size) ⟨hp.push o, g, d, tk, os⟩ → wpAny (model P w) A2 (pyIter v) Q E ⟨hp, g, d, tk, os⟩ := fun z => B.iter P w _ _ ⟨hp, g, d, tk, os⟩ _ h1 z
    wp_walk using step
    refine wpAny_stack_any fun st => wpAny_pure ?_
    split
    · rename_i c _ _ _ _ _
      cases (c == Value.type "enumerate")
      · wp_walk using step
        exact ⟨_, rfl, h⟩
      · wp_walk using step
        exact ⟨_, rfl, h⟩
    · wp_walk using step
      exact ⟨_, rfl, h⟩
/-- zip's pairs, each new -/
def ItZ (K : PySem.W.Frag) (k m : Bool) (a b : Addr) : It where
  go i H := ∃ (xs ys : List V) (x y : V), SqB K k H a xs ∧ SqB K m H b ys ∧ xs[i]? = some x ∧ ys[i]? = some y
  yld i H v H2 := ∃ T x y, v = .ref T ∧ H T = none ∧ H2 = upd H T (.tup [x, y]) ∧ (∀ xs, SqB K k H a xs → xs[i]? = some x) ∧ ∀ ys, SqB K m H b ys → ys[i]? = some y
  stop i H := ∃ xs ys : List V, SqB K k H a xs ∧ SqB K m H b ys ∧ i ≤ xs.length ∧ i ≤ ys.length ∧ (i = xs.length ∨ i = ys.length)
theorem sep_of {z TI TO i1 i2 a b : Addr} (D : ZipApart z TI TO i1 i2 a b) : ZipSep2 z TI TO i1 i2 [i1, a] [i2, b] where
  TIz := D.TIz
  TOz := D.TOz
  TITO := D.TITO
  TIi1 := D.TIi1
  mem1 := List.mem_cons_self
  zf1 := by simp [Ne.symm D.i1z, Ne.symm D.l1z]
  Tf1 := by simp [D.TOi1, Ne.symm D.l1TO]
  TIi2 := D.TIi2
  mem2 := List.mem_cons_self
  zf2 := by simp [Ne.symm D.i2z, Ne.symm D.l2z]
  Tf2 := by simp [D.TOi2, Ne.symm D.l2TO]
  sep1_2 := by simp [D.i12, Ne.symm D.l2i1]
  sep2_1 := by simp [Ne.symm D.i12, Ne.symm D.l1i2]
theorem lt_of_len {xs : List V} {us : List Value} (rv : Vals xs us) {i : Nat} {x : V} (hx : xs[i]? = some x) : i < us.toArray.size := by
  obtain ⟨hi, _⟩ := List.getElem?_eq_some_iff.mp hx
  rw [List.size_toArray, ← rv.length]; exact hi
theorem val_same {xs : List V} {us : List Value} (rv : Vals xs us) {i : Nat} {x : V} {u : Value} (hx : xs[i]? = some x) (hu : us.toArray[i]? = some u) : L2.RelV x u := by
  obtain ⟨u0, hu0, ru⟩ := rv.get hx
  have : us[i]? = some u := by simpa using hu
  rw [hu0] at this
  cases this
  exact ru
theorem turn_z {P : Program} {w : World} {K : PySem.W.Frag} {elts : List Expr} {kk : Nat} {tpos : Pos} (k m : Bool) {a b z TI TO i1 i2 : Addr} (D : ZipApart z TI TO i1 i2 a b) :
    Turn P w K (.Tuple elts kk tpos) (ItZ K k m a b) [z, TI, TO, i1, i2] z (fun i h => IsZip h z TI TO .none ∧ IsTupOf2 h TI (.ref i1) (.ref i2) ∧ (∃ x y, IsTupOf2 h TO x y) ∧ ItB k h i1 a i ∧ ItB m h i2 b i) where
  mem := List.mem_cons_self
  obj := fun i h st c hc => by
    obtain ⟨hz, hTI, ⟨x, y, hTO⟩, h1, h2⟩ := st
    obtain ⟨o1, v1, e1, d1⟩ := itB_get h1
    obtain ⟨o2, v2, e2, d2⟩ := itB_get h2
    simp only [List.mem_cons, List.not_mem_nil, or_false] at hc
    rcases hc with q | q | q | q | q <;> rw [q]
    · exact ⟨_, hz, fun v q => nomatch q⟩
    · exact ⟨_, hTI, fun v q => nomatch q⟩
    · exact ⟨_, hTO, fun v q => nomatch q⟩
    · exact ⟨o1, e1, fun v q => by rw [d1] at q; cases q⟩
    · exact ⟨o2, e2, fun v q => by rw [d2] at q; cases q⟩
  keep := fun i h h2 st q => by
    obtain ⟨hz, hTI, ⟨x, y, hTO⟩, j1, j2⟩ := st
    exact ⟨q z (by simp) _ hz, q TI (by simp) _ hTI, ⟨x, y, q TO (by simp) _ hTO⟩, itB_at j1 fun o e => q i1 (by simp) o e, itB_at j2 fun o e => q i2 (by simp) o e⟩
  item := by
    intro X hP hw hK hc i pins s σ H E I hf st hg
    subst hP hw hK
    obtain ⟨hz, hTI, ⟨x0, y0, hTO⟩, j1, j2⟩ := st
    obtain ⟨xs, ys, x, y, hqx, hqy, hx, hy⟩ := hg
    obtain ⟨us, rv, p1⟩ := seqB I hqx
    obtain ⟨ws, rw', p2⟩ := seqB I hqy
    have D1 := drawsB (P := X.prog) (w := X.w) (A := X.A.in1) (I.ok.hd hc) k D.l1i1 us.toArray
    have D2 := drawsB (P := X.prog) (w := X.w) (A := X.A.in1) (I.ok.hd hc) m D.l2i2 ws.toArray
    have zl : z < s.heap.objs.size := Heap.lt_size hz
    refine wpAny_pyNext_zipD2_item (sep_of D) D1 D2 hz hTI hTO ⟨j1, p1⟩ ⟨j2, p2⟩ (lt_of_len rv hx) (lt_of_len rw' hy) fun u v h1 tk hu hv z1 TO1 st1 st2 hT hsz hk => ?_
    refine ⟨_, rfl, wpAny_letOwnedTupleGo_zip (s := { s with heap := h1, toks := tk }) z1 fun h2 z2 sb => ?_⟩
    have T2 : IsTupOf2 h2 s.heap.objs.size u v := (sb.2 _ (Nat.ne_of_gt zl)).trans hT
    have new : ObjOk X.prog X.w (upd H s.heap.objs.size (.tup [x, y])) h2 s.heap.objs.size (.tup [x, y]) :=
      ⟨show 2 ≤ sizeLine by decide, [u, v], .cons (val_same rv hx hu) (.cons (val_same rw' hy hv) .nil), _, T2, rfl, _, rfl⟩
    have far : ∀ c o, c ∉ [z, TI, TO, i1, i2] → s.heap.get? c = some o → h2.get? c = some o := fun c o hc q =>
      (sb.2 c fun e => hc (by simp [e])).trans (hk c o (fun e => hc (by simp [e])) (fun e => hc (by simp [e])) (fun e => hc (by simp [e])) (fun e => hc (by simp [e])) q)
    have I1 : Inv X pins σ (upd H s.heap.objs.size (.tup [x, y])) { s with heap := h2, toks := tk } := I.turnedNew (ch := [z, TI, TO, i1, i2]) far hf (Nat.le_refl _) new
    refine ⟨.ref s.heap.objs.size, _, I1, rfl, ⟨_, x, y, rfl, I.hok.fresh (Nat.le_refl _), rfl, fun l hl => by rw [seqB_inj I hl hqx]; exact hx, fun l hl => by rw [seqB_inj I hl hqy]; exact hy⟩, ⟨z2, ?_, ⟨u, v, ?_⟩, ?_, ?_⟩, fun c hcm => ?_⟩
    · exact (sb.2 _ D.TIz).trans (hk _ _ D.TIz D.TITO D.TIi1 D.TIi2 hTI)
    · exact (sb.2 _ D.TOz).trans TO1
    · exact itB_at st1.1 fun o q => (sb.2 _ D.i1z).trans q
    · exact itB_at st2.1 fun o q => (sb.2 _ D.i2z).trans q
    · have hlt : c < s.heap.objs.size := by
        obtain ⟨o1, v1, e1, _⟩ := itB_get j1
        obtain ⟨o2, v2, e2, _⟩ := itB_get j2
        simp only [List.mem_cons, List.not_mem_nil, or_false] at hcm
        rcases hcm with q | q | q | q | q <;> rw [q]
        · exact zl
        · exact Heap.lt_size hTI
        · exact Heap.lt_size hTO
        · exact Heap.lt_size e1
        · exact Heap.lt_size e2
      rw [upd_ne (Nat.ne_of_lt hlt)]
      exact (hf c hcm).1
  done := by
    intro X hP hw hK hc i pins s σ H E I hf st hg
    subst hP hw hK
    obtain ⟨hz, hTI, ⟨x0, y0, hTO⟩, j1, j2⟩ := st
    obtain ⟨xs, ys, hqx, hqy, l1, l2, en⟩ := hg
    obtain ⟨us, rv, p1⟩ := seqB I hqx
    obtain ⟨ws, rw', p2⟩ := seqB I hqy
    have D1 := drawsB (P := X.prog) (w := X.w) (A := X.A.in1) (I.ok.hd hc) k D.l1i1 us.toArray
    have D2 := drawsB (P := X.prog) (w := X.w) (A := X.A.in1) (I.ok.hd hc) m D.l2i2 ws.toArray
    have n1 : us.toArray.size = xs.length := by rw [List.size_toArray, rv.length]
    have n2 : ws.toArray.size = ys.length := by rw [List.size_toArray, rw'.length]
    refine wpAny_pyNext_zipD2_end (sep_of D) D1 D2 hz hTI hTO ⟨j1, p1⟩ ⟨j2, p2⟩ (by omega) (by omega) (by omega) fun h1 tk hk => ⟨rfl, ?_⟩
    exact I.turnedL (t' := tk) (ch := [z, TI, TO, i1, i2]) (fun c o hc q => hk c o (fun e => hc (by simp [e])) (fun e => hc (by simp [e])) (fun e => hc (by simp [e])) (fun e => hc (by simp [e])) q) hf
  self := fun A i s Q E st h => wpAny_pyIter_zip st.1 h
theorem e_begins {P : Program} {w : World} {A : Around} {E : Value → Shared → Prop} {s : Shared} {v : Value} {o : Obj} {J : Heap → Prop} {Q : Value → Shared → Prop} (B : Begins v o J) (h1 : J s.heap)
    (go : ∀ h2, IsEnum h2 (s.heap.objs.size + 1) s.heap.objs.size 0 .none → h2.get? s.heap.objs.size = some o → (∀ b o, s.heap.get? b = some o → h2.get? b = some o) → Q (.ref (s.heap.objs.size + 1)) { s with heap := h2 }) :
    wpAny (model P w) A (call (.type "enumerate") [v]) Q E s := by
  refine callType_new F.called_enumerate (by decide) (F.typeCall_enumerate_1 _) (F.newCall_enumerate_1 _) (fun obj => F.args_object_init_2 obj _) F.entry_enumerate_new (enum_new1 B) ⟨h1, ?_⟩
  have z1 : (s.heap.push o).objs.size = s.heap.objs.size + 1 := Heap.size_push ..
  show _ ∧ _
  rw [z1]
  have he := Heap.get?_push_size (s.heap.push o) (o := ⟨.type "enumerate", none, .fields #[.none, .bool false, .ref s.heap.objs.size, rawInt 0, .none, .none], #[]⟩) rfl
  rw [z1] at he
  exact ⟨⟨_, he, rfl⟩, go _ he (Heap.get?_push_of_some _ (Heap.get?_push_size _ B.free)) fun b o q => Heap.get?_push_of_some _ (Heap.get?_push_of_some _ q)⟩
def iE2 (K : PySem.W.Frag) (ta : TA) : TI := fun σ H R => ta σ H fun vs H1 => ∃ k a xs, vs = [.ref a] ∧ SqB K k H1 a xs ∧ R (ItE K k a) H1
theorem pi_e2 {X : Cx} {e : Expr} {ta : TA} {p pos tpos : Pos} {elts : List Expr} {kk : Nat} (hg : Gl X "enumerate") (hm : X.mg "enumerate" = none) (ha : PA X [e] ta) (hs : starEach [e] X.env = [(false, eval e X.env)] := by rfl) :
    PI X (.Tuple elts kk tpos) (.Call (.Name "enumerate" p) [e] [] pos) (iE2 X.K ta) := by
  refine ⟨fun pins s σ H R I h => ?_⟩
  refine Call_ (ld_blt I hg hm boot_enumerate (PyProof.Rows.callWith_type1 (thn (ha.run pos pins s σ H _ I h) fun us s1 ⟨vs, H1, I1, r1, q1⟩ => ?_) hs rfl))
  obtain ⟨k, a, xs, ex, hq, q⟩ := q1
  subst ex
  cases r1 with
  | cons r rr =>
    cases rr
    cases r
    obtain ⟨us, rv, p1⟩ := seqB I1 hq
    refine e_begins (beginsB k a us.toArray) p1 fun h2 he hi far => wpAny_pyIter_enum he ?_
    have I2 : Inv X pins σ H1 { s1 with heap := h2 } := I1.kept (t' := s1.toks) far
    refine ⟨s1.heap.objs.size + 1, [s1.heap.objs.size + 1, s1.heap.objs.size], _, _, H1, rfl, I2, turn_e k a (s1.heap.objs.size + 1) s1.heap.objs.size, ⟨⟨.none, he⟩, itB_new k hi, Nat.succ_ne_self _⟩, fun b hb => ?_, q⟩
    have hle : s1.heap.objs.size ≤ b := by
      rcases List.mem_cons.mp hb with z | hb
      · rw [z]; exact Nat.le_add_right _ _
      · rw [List.mem_singleton.mp hb]; exact Nat.le_refl _
    exact I1.fpOk hle (I1.hok.fresh hle)
def iZ2 (K : PySem.W.Frag) (ta : TA) : TI := fun σ H R => ta σ H fun vs H1 => ∃ k m a b xs ys, vs = [.ref a, .ref b] ∧ SqB K k H1 a xs ∧ SqB K m H1 b ys ∧ R (ItZ K k m a b) H1
theorem isB_lt {k : Bool} {h : Heap} {a : Addr} {its : Array Value} (q : IsB k h a its) : a < h.objs.size := let ⟨_, _, e, _⟩ := isB_get q; Heap.lt_size e
theorem pi_z2 {X : Cx} {e e2 : Expr} {ta : TA} {p pos tpos : Pos} {elts : List Expr} {kk : Nat} (hg : Gl X "zip") (hm : X.mg "zip" = none) (ha : PA X [e, e2] ta)
    (hs : starEach [e, e2] X.env = (false, eval e X.env) :: starEach [e2] X.env := by rfl) (hpl : (backTo pos (starEach [e2] X.env)).any (·.1) = false := by rfl) :
    PI X (.Tuple elts kk tpos) (.Call (.Name "zip" p) [e, e2] [] pos) (iZ2 X.K ta) := by
  refine ⟨fun pins s σ H R I h => ?_⟩
  refine Call_ (ld_blt I hg hm PyProof.Rows.boot_zip (PyProof.Rows.callWith_type1 (thn (ha.run pos pins s σ H _ I h) fun us s1 ⟨vs, H1, I1, r1, q1⟩ => ?_) hs hpl))
  obtain ⟨k, m, a, b, xs, ys, ex, hqx, hqy, q⟩ := q1
  subst ex
  cases r1 with
  | cons r rr =>
    cases rr with
    | cons r' rr =>
      cases rr
      cases r
      cases r'
      obtain ⟨us, rv, p1⟩ := seqB I1 hqx
      obtain ⟨ws, rw', p2⟩ := seqB I1 hqy
      refine zip_begins2 (beginsB k a us.toArray) (beginsB m b ws.toArray) p1 p2 fun h2 hz hTI hTO g1 g2 hsz far => wpAny_pyIter_zip hz ?_
      have I2 : Inv X pins σ H1 { s1 with heap := h2 } := I1.kept (t' := s1.toks) far
      refine ⟨s1.heap.objs.size + 4, [s1.heap.objs.size + 4, s1.heap.objs.size + 2, s1.heap.objs.size + 3, s1.heap.objs.size, s1.heap.objs.size + 1], _, _, H1, rfl, I2, turn_z k m (PySem.W.ktu_apart s1.heap.objs.size a b (isB_lt p1) (isB_lt p2)), ⟨hz, hTI, ⟨_, _, hTO⟩, itB_new k g1, itB_new m g2⟩, fun c hcm => ?_, q⟩
      have hle : s1.heap.objs.size ≤ c := by
        simp only [List.mem_cons, List.not_mem_nil, or_false] at hcm
        rcases hcm with z | z | z | z | z <;> rw [z] <;> first | exact Nat.le_add_right _ _ | exact Nat.le_refl _
      exact I1.fpOk hle (I1.hok.fresh hle)
section
variable {ι : Type} {X : ι → Cx} {K : PySem.W.Frag} {EW : XK} {a b : Expr} {ma mb : Ex} {pos p tpos : Pos} {elts : List Expr} {kk : Nat}
theorem src_any {H1 : Hp} {μ1 : Mu} {s1 : S} {v : Val} {x : V} {xs : List Val} (m1 : Mem K H1 μ1 s1) (r1 : Rep K H1 μ1 v x) (ea : asQ s1 v = some xs) :
    ∃ k q vs, x = .ref q ∧ SqB K k H1 q vs ∧ xs.length ≤ sizeLine ∧ ∀ H2 μ2 s2, Grow μ1 H1 μ2 H2 → Mem K H2 μ2 s2 → still v xs s2 = true → ∃ vs, SqB K k H2 q vs ∧ RepAll K H2 μ2 xs vs := by
  have other : asL s1 v = some xs → ∃ k q vs, x = .ref q ∧ SqB K k H1 q vs ∧ xs.length ≤ sizeLine ∧ ∀ H2 μ2 s2, Grow μ1 H1 μ2 H2 → Mem K H2 μ2 s2 → still v xs s2 = true → ∃ vs, SqB K k H2 q vs ∧ RepAll K H2 μ2 xs vs := fun e => by
    obtain ⟨q, vs, eq, hq, hl, st⟩ := src_list m1 r1 e
    exact ⟨false, q, vs, eq, hq, hl, st⟩
  cases v with
  | tup ys =>
    cases ea
    obtain ⟨q, vs, eq, hq, hl, st⟩ := src_tup m1 r1
    exact ⟨true, q, vs, eq, hq, hl, fun H2 μ2 s2 g _ _ => st H2 μ2 g⟩
  | _ => exact other ea
theorem yields_e {H0 : Hp} {μ0 : Mu} {xs : List Val} {keep : S → Bool} {k : Bool} {q : Addr} (hl : xs.length ≤ sizeLine)
    (h : ∀ H μ s, Grow μ0 H0 μ H → Mem K H μ s → keep s = true → ∃ vs, SqB K k H q vs ∧ RepAll K H μ xs vs) : Yields K (ItE K k q) H0 μ0 true ((xs.zipIdx).map fun p => .tup [.int p.2, p.1]) keep := by
  refine ⟨by simpa using hl, fun H μ s i g m ks hi => ?_, fun H μ s g m ks => ?_, fun H μ s i v x H' g m ks hv y => ?_⟩
  all_goals obtain ⟨vs, hs, hr⟩ := h H μ s g m ks
  · exact ⟨vs, vs[i]'(by rw [hr.length]; simpa using hi), hs, List.getElem?_eq_getElem _⟩
  · exact ⟨vs, hs, by rw [hr.length]; simp⟩
  · obtain ⟨T, w, e, hT, e', hx⟩ := y
    subst e'
    have hv' : ∃ u, xs[i]? = some u ∧ v = .tup [.int i, u] := by
      simp only [List.getElem?_map, List.getElem?_zipIdx, Option.map_map, Option.map_eq_some_iff] at hv
      obtain ⟨u, hu, e⟩ := hv
      exact ⟨u, hu, by rw [← e]; simp⟩
    obtain ⟨u, hu, rfl⟩ := hv'
    obtain ⟨w', hw', rw'⟩ := hr.get hu
    have ew : w' = w := Option.some.inj (hw'.symm.trans (hx vs hs))
    subst ew
    have g2 := m.new (o := .tup [.int (i : Nat), w']) hT
    exact ⟨g2, m.upd_new hT, [.int i, u], T, [.int (i : Nat), w'], rfl, e, .inl (.inl upd_same), .cons rep_of_int (.cons (Rep.mono g2 m u w' rw') .nil)⟩
theorem yields_z {H0 : Hp} {μ0 : Mu} {xs ys : List Val} {k1 k2 : S → Bool} {k m : Bool} {q r : Addr} (hl : xs.length ≤ sizeLine)
    (hx : ∀ H μ s, Grow μ0 H0 μ H → Mem K H μ s → k1 s = true → ∃ vs, SqB K k H q vs ∧ RepAll K H μ xs vs) (hy : ∀ H μ s, Grow μ0 H0 μ H → Mem K H μ s → k2 s = true → ∃ vs, SqB K m H r vs ∧ RepAll K H μ ys vs) :
    Yields K (ItZ K k m q r) H0 μ0 true ((xs.zip ys).map fun p => .tup [p.1, p.2]) (fun s => k1 s && k2 s) := by
  refine ⟨by simp only [List.length_map, List.length_zip]; omega, fun H μ s i g m ks hi => ?_, fun H μ s g m ks => ?_, fun H μ s i v x H' g m ks hv y => ?_⟩
  all_goals
    simp only [Bool.and_eq_true] at ks
    obtain ⟨vs, hs, hr⟩ := hx H μ s g m ks.1
    obtain ⟨ws, ht, hr'⟩ := hy H μ s g m ks.2
  · simp only [List.length_map, List.length_zip] at hi
    exact ⟨vs, ws, vs[i]'(by rw [hr.length]; omega), ws[i]'(by rw [hr'.length]; omega), hs, ht, List.getElem?_eq_getElem _, List.getElem?_eq_getElem _⟩
  · refine ⟨vs, ws, hs, ht, ?_⟩
    rw [hr.length, hr'.length]
    simp only [List.length_map, List.length_zip]
    omega
  · obtain ⟨T, w, w2, e, hT, e', h1, h2⟩ := y
    subst e'
    obtain ⟨u, z, hu, hz, rfl⟩ := zip_pair hv
    obtain ⟨w', hw', rw'⟩ := hr.get hu
    obtain ⟨z', hz', rz'⟩ := hr'.get hz
    have ew : w' = w := Option.some.inj (hw'.symm.trans (h1 vs hs))
    have ez : z' = w2 := Option.some.inj (hz'.symm.trans (h2 ws ht))
    subst ew
    subst ez
    have g2 := m.new (o := .tup [w', z']) hT
    exact ⟨g2, m.upd_new hT, [u, z], T, [w', z'], rfl, e, .inl (.inl upd_same), .cons (Rep.mono g2 m u w' rw') (.cons (Rep.mono g2 m z z' rz') .nil)⟩
theorem mi_enum (c : CxF X K) (hg : ∀ i, Gl (X i) "enumerate") (hm : ∀ i, (X i).mg "enumerate" = none) (ha : ME X K EW a ma) (hs : ∀ i, starEach [a] (X i).env = (false, eval a (X i).env) :: starEach [] (X i).env := by intro _; rfl) (hs2 : ∀ i, starEach [a] (X i).env = [(false, eval a (X i).env)] := by intro _; rfl) :
    MI X K EW (.Tuple elts kk tpos) (.Call (.Name "enumerate" p) [a] [] pos) (FM.iEnum ma) true := by
  obtain ⟨ta, pa, sa⟩ := ha.ex
  refine ⟨⟨iE2 K (tCons ta tNil), fun i => c.kk i ▸ pi_e2 (hg i) (hm i) (pa_cons (pa i) pa_nil (hs i)) (hs2 i), fun σ H ρ μ s R hr m h => ?_⟩⟩
  refine sa σ H ρ μ s _ hr m (wp_mono (wp_bind h) (fun v s1 h1 => ?_) fun _ _ q => q)
  intro x H1 μ1 g1 m1 r1
  cases ea : asQ s1 v with
  | none => rw [ea] at h1; exact False.elim h1
  | some xs =>
    rw [ea] at h1
    obtain ⟨k, q, vs, eq, hq, hl, st⟩ := src_any m1 r1 ea
    exact ⟨k, q, vs, by rw [eq], hq, h1 (ItE K k q) H1 μ1 g1 m1 (yields_e hl st)⟩
theorem mi_zip (c : CxF X K) (hg : ∀ i, Gl (X i) "zip") (hm : ∀ i, (X i).mg "zip" = none) (ha : ME X K EW a ma) (hb : ME X K EW b mb) (hs : ∀ i, starEach [a, b] (X i).env = (false, eval a (X i).env) :: starEach [b] (X i).env := by intro _; rfl)
    (hs2 : ∀ i, starEach [b] (X i).env = (false, eval b (X i).env) :: starEach [] (X i).env := by intro _; rfl) (hpl : ∀ i, (backTo pos (starEach [b] (X i).env)).any (·.1) = false := by intro _; rfl) :
    MI X K EW (.Tuple elts kk tpos) (.Call (.Name "zip" p) [a, b] [] pos) (iZip ma mb) true := by
  obtain ⟨ta, pa, sa⟩ := ha.ex
  obtain ⟨tb, pb, sb⟩ := hb.ex
  refine ⟨⟨iZ2 K (tCons ta (tCons tb tNil)), fun i => c.kk i ▸ pi_z2 (hg i) (hm i) (pa_cons (pa i) (pa_cons (pb i) pa_nil (hs2 i)) (hs i)) (hs i) (hpl i), fun σ H ρ μ s R hr m h => ?_⟩⟩
  refine sa σ H ρ μ s _ hr m (wp_mono (wp_bind h) (fun v s1 h1 => ?_) fun _ _ q => q)
  intro x H1 μ1 g1 m1 r1
  refine sb σ H1 ρ μ1 s1 _ (hr.mono g1 m) m1 (wp_mono (wp_bind h1) (fun u s2 h2 => ?_) fun _ _ q => q.mono g1)
  intro y H2 μ2 g2 m2 r2
  have r1 := Rep.mono g2 m1 v x r1
  cases ea : asQ s2 v with
  | none => rw [ea] at h2; exact False.elim h2
  | some xs =>
    cases eb : asQ s2 u with
    | none => rw [ea, eb] at h2; exact False.elim h2
    | some ys =>
      rw [ea, eb] at h2
      obtain ⟨k, q, vs, eq, hq, hl, st⟩ := src_any m2 r1 ea
      obtain ⟨n, r, ws, er, hq2, _, st2⟩ := src_any m2 r2 eb
      exact ⟨k, n, q, r, vs, ws, by rw [eq, er], hq, hq2, h2 (ItZ K k n q r) H2 μ2 (g1.trans g2) m2 (yields_z hl st st2)⟩
end
end FM

set_option autoImplicit false
/-! list(zip(a list, a list)) -/
namespace FM
open PySem PySem.Spec PyProof.Rows L2
variable [Tbl]
theorem zip_noLen : typeLookup (.type "zip") "__len__" = Pure.pure none := am_miss_of_fast (by decide +kernel)
theorem zip_noHint : typeLookup (.type "zip") "__length_hint__" = Pure.pure none := am_miss_of_fast (by decide +kernel)
/-- the pairs that were given out -/
structure ZG (xs ys : Array Value) (lo : Addr) (h : Heap) (ts : List Addr) : Prop where
  up : ts.Pairwise (· < ·)
  hi : ∀ t ∈ ts, lo < t
  look : ∀ (j : Nat) (t : Addr), ts[j]? = some t → ∃ x y, xs[j]? = some x ∧ ys[j]? = some y ∧ IsPair h t x y
theorem ZG.size {xs ys : Array Value} {lo : Addr} {h : Heap} {ts : List Addr} (g : ZG xs ys lo h ts) {t : Addr} (m : t ∈ ts) : t < h.objs.size := by
  obtain ⟨j, e⟩ := List.mem_iff_getElem?.mp m
  obtain ⟨_, _, _, _, q⟩ := g.look j t e
  exact Heap.lt_size q
/-- the zip's own cells, and the two lists -/
structure ZC where
  z : Addr
  TI : Addr
  TO : Addr
  i1 : Addr
  i2 : Addr
  l1 : Addr
  l2 : Addr
def ZC.mv (c : ZC) : List Addr := [c.z, c.TI, c.TO, c.i1, c.i2]
def ZC.all (c : ZC) : List Addr := [c.z, c.TI, c.TO, c.i1, c.i2, c.l1, c.l2]
theorem ZC.sub {c : ZC} {b : Addr} (h : b ∈ c.mv) : b ∈ c.all := by
  simp only [ZC.mv, ZC.all, List.mem_cons, List.not_mem_nil, or_false] at h ⊢
  rcases h with h | h | h | h | h <;> simp [h]
structure ZSt (c : ZC) (S : Addr) (xs ys : Array Value) (h : Heap) (i : Nat) : Prop where
  own : (i = 0 ∧ IsZip h c.z c.TI c.TO .none ∧ ∃ a b, IsPair h c.TO a b) ∨ ∃ T f o, IsZipHeld h c.z c.TI c.TO T f ∧ h.get? T = some o ∧ T ≠ S
  pr : IsPair h c.TI (.ref c.i1) (.ref c.i2)
  it1 : h.IsListIter c.i1 c.l1 i
  it2 : h.IsListIter c.i2 c.l2 i
  ls1 : h.IsList c.l1 xs
  ls2 : h.IsList c.l2 ys
theorem ZSt.keep {c : ZC} {S : Addr} {xs ys : Array Value} {h h2 : Heap} {i : Nat} (q : ZSt c S xs ys h i) (far : ∀ b ∈ c.all, b ≠ S) (k : ∀ b o, b ≠ S → h.get? b = some o → h2.get? b = some o) : ZSt c S xs ys h2 i where
  own := by
    rcases q.own with ⟨e, a, x, y, b⟩ | ⟨T, f, o, a, b, n⟩
    · exact .inl ⟨e, k _ _ (far _ (by simp [ZC.all])) a, x, y, k _ _ (far _ (by simp [ZC.all])) b⟩
    · exact .inr ⟨T, f, o, k _ _ (far _ (by simp [ZC.all])) a, k _ _ n b, n⟩
  pr := k _ _ (far _ (by simp [ZC.all])) q.pr
  it1 := q.it1.at fun o e => k _ _ (far _ (by simp [ZC.all])) e
  it2 := q.it2.at fun o e => k _ _ (far _ (by simp [ZC.all])) e
  ls1 := q.ls1.at fun o e => k _ _ (far _ (by simp [ZC.all])) e
  ls2 := q.ls2.at fun o e => k _ _ (far _ (by simp [ZC.all])) e
section
variable {P : Program} {w : World} {A : Around} {E : Value → Shared → Prop} {s : Shared} {c : ZC} {S : Addr} {xs ys : Array Value} {i : Nat}
theorem z_item {x y : Value} {Q : Option Value → Shared → Prop} (D : ZipApart c.z c.TI c.TO c.i1 c.i2 c.l1 c.l2) (q : ZSt c S xs ys s.heap i) (hS : S < s.heap.objs.size) (ex : xs[i]? = some x) (ey : ys[i]? = some y)
    (go : ∀ h2, ZSt c S xs ys h2 (i + 1) → IsPair h2 s.heap.objs.size x y → (∀ b o, b ∉ c.mv → s.heap.get? b = some o → h2.get? b = some o) → Q (some (.ref s.heap.objs.size)) { s with heap := h2 }) :
    wpAny (model P w) A (pyNext (.ref c.z)) Q E s := by
  have st : ∀ {h2 : Heap} {f : Bool} {T : Addr} {o : Obj}, IsZipHeld h2 c.z c.TI c.TO T f → h2.get? T = some o → T ≠ S → h2.IsListIter c.i1 c.l1 (i + 1) → h2.IsListIter c.i2 c.l2 (i + 1) →
      (∀ b o, b ≠ c.z → b ≠ c.TO → b ≠ c.i1 → b ≠ c.i2 → s.heap.get? b = some o → h2.get? b = some o) → ZSt c S xs ys h2 (i + 1) := fun a1 a2 a3 a4 a5 k =>
    ⟨.inr ⟨_, _, _, a1, a2, a3⟩, k _ _ D.TIz D.TITO D.TIi1 D.TIi2 q.pr, a4, a5, q.ls1.at fun o e => k _ _ D.l1z D.l1TO D.l1i1 D.l1i2 e, q.ls2.at fun o e => k _ _ D.l2z D.l2TO D.l2i1 D.l2i2 e⟩
  have off : ∀ {b}, b ∉ c.mv → b ≠ c.z ∧ b ≠ c.TO ∧ b ≠ c.i1 ∧ b ≠ c.i2 := fun hb => by
    simp only [ZC.mv, List.mem_cons, not_or] at hb
    exact ⟨hb.1, hb.2.2.1, hb.2.2.2.1, hb.2.2.2.2.1⟩
  rcases q.own with ⟨e, a, u, v, b⟩ | ⟨T, f, o, a, b, n⟩
  · refine wpAny_pyNext_zip_item D a q.pr b q.it1 q.it2 q.ls1 q.ls2 ex ey fun h2 z2 p2 j1 j2 pp sz k => go h2 (st z2 pp (Nat.ne_of_gt hS) j1 j2 k) pp fun b o hb => ?_
    obtain ⟨n1, n2, n3, n4⟩ := off hb
    exact k b o n1 n2 n3 n4
  · have hin : ∀ h2 : Heap, (∀ b o, b ≠ c.z → b ≠ c.i1 → b ≠ c.i2 → s.heap.get? b = some o → h2.get? b = some o) → IsZipHeld h2 c.z c.TI c.TO T true → h2.IsListIter c.i1 c.l1 (i + 1) → h2.IsListIter c.i2 c.l2 (i + 1) → ∃ o2, h2.get? T = some o2 := fun h2 k z2 j1 j2 => by
      by_cases t1 : T = c.z
      · rw [t1]; exact ⟨_, z2⟩
      · by_cases t2 : T = c.i1
        · obtain ⟨o2, e2, _⟩ := j1; exact ⟨o2, t2 ▸ e2⟩
        · by_cases t3 : T = c.i2
          · obtain ⟨o2, e2, _⟩ := j2; exact ⟨o2, t3 ▸ e2⟩
          · exact ⟨o, k T o t1 t2 t3 b⟩
    refine wpAny_pyNext_zip_item_held D a b q.pr q.it1 q.it2 q.ls1 q.ls2 ex ey fun h2 z2 j1 j2 pp sz k => ?_
    obtain ⟨o2, e2⟩ := hin h2 k z2 j1 j2
    refine go h2 (st z2 e2 n j1 j2 fun b o n1 n2 n3 n4 => k b o n1 n3 n4) pp fun b o hb => ?_
    obtain ⟨n1, n2, n3, n4⟩ := off hb
    exact k b o n1 n3 n4
theorem z_done {Q : Option Value → Shared → Prop} (hh : A.handled = none) (D : ZipApart c.z c.TI c.TO c.i1 c.i2 c.l1 c.l2) (q : ZSt c S xs ys s.heap i) (en : xs[i]? = none ∨ ys[i]? = none)
    (go : ∀ h2, (∀ b o, b ∉ c.mv → s.heap.get? b = some o → h2.get? b = some o) → Q none { s with heap := h2 }) : wpAny (model P w) A (pyNext (.ref c.z)) Q E s := by
  have off : ∀ {b}, b ∉ c.mv → b ≠ c.z ∧ b ≠ c.TO ∧ b ≠ c.i1 ∧ b ≠ c.i2 := fun hb => by
    simp only [ZC.mv, List.mem_cons, not_or] at hb
    exact ⟨hb.1, hb.2.2.1, hb.2.2.2.1, hb.2.2.2.2.1⟩
  rcases q.own with ⟨e, a, u, v, b⟩ | ⟨T, f, o, a, b, n⟩
  · refine wpAny_pyNext_zip_end hh D a q.pr b q.it1 q.it2 q.ls1 q.ls2 en fun h2 k => go h2 fun b o hb => ?_
    obtain ⟨n1, n2, n3, n4⟩ := off hb
    exact k b o n1 n2 n3 n4
  · refine wpAny_pyNext_zip_end_held hh D a b q.pr q.it1 q.it2 q.ls1 q.ls2 en fun h2 k => go h2 fun b o hb => ?_
    obtain ⟨n1, n2, n3, n4⟩ := off hb
    exact k b o n1 n3 n4
theorem z_self (q : ZSt c S xs ys s.heap 0) {Q : Value → Shared → Prop} (h : Q (.ref c.z) s) : wpAny (model P w) A (pyIter (.ref c.z)) Q E s := by
  rcases q.own with ⟨e, a, u, v, b⟩ | ⟨T, f, o, a, b, n⟩
  · exact wpAny_pyIter_zip a h
  · have hT : s.TypeIs (.ref c.z) "zip" := ⟨_, a, rfl⟩
    refine wpAny_pyIter_slot hT F.slot_zip_iter (wpAny_call_entry F.slot_zip_iter hT F.entry_zip_iter ?_ (F.args_zip_iter_1 _))
    exact wpAny_pure ⟨_, rfl, "zip", _, hT, F.slot_zip_next.lookup, h⟩
end
section
variable {P : Program} {w : World} {A : Around} {s : Shared} {R : Result → Shared → Prop} {c : ZC} {S : Addr} {xs ys : Array Value}
theorem z_loop (hh : A.handled = none) (D : ZipApart c.z c.TI c.TO c.i1 c.i2 c.l1 c.l2) (far : ∀ b ∈ c.all, b < S) (n : Nat) (en : n = min xs.size ys.size) (hn : n ≤ sizeLine) (res : Value) {h0 : Heap}
    (fin : ∀ h2 tk acc cap ts, (∀ b o, b ≠ S → b ∉ c.mv → h0.get? b = some o → h2.get? b = some o) → h2.get? S = some { cls := .type "list", dict := none, data := .seq acc cap, slots := #[] } → ts.length = n → ZG xs ys S h2 ts →
      acc.toList = ts.map Value.ref → R (.ok (.ret res)) { s with heap := h2, toks := tk }) :
    ∀ (k i : Nat) (h : Heap) (tk cap : Nat) (acc : Array Value) (ts : List Addr), n - i = k → i ≤ n → ZSt c S xs ys h i → (∀ b o, b ≠ S → b ∉ c.mv → h0.get? b = some o → h.get? b = some o) →
      h.get? S = some { cls := .type "list", dict := none, data := .seq acc cap, slots := #[] } → acc.toList = ts.map Value.ref → ts.length = i → ZG xs ys S h ts →
      codeAny (model P w) A (.builtin "list.extend.loop" ⟨[.ref S, .ref c.z, res], []⟩) R { s with heap := h, toks := tk } := by
  have noS : S ∉ c.mv := fun z => Nat.lt_irrefl _ (far S (ZC.sub z))
  have ofar : ∀ t, S < t → t ∉ c.mv := fun t ht z => Nat.lt_irrefl _ (Nat.lt_trans ht (far t (ZC.sub z)))
  intro k
  induction k with
  | zero =>
    intro i h tk cap acc ts hk hi q keep eS ea el g
    have ei : i = n := by omega
    refine codeAny_builtin PySem.F.entry_extend_loop ?_
    rw [Around.under_plainId PySem.F.plain_extend_loop _]
    show wpAny _ A.in1 (pyNext (.ref c.z) >>= _) _ _ _
    have nd : xs[i]? = none ∨ ys[i]? = none := by
      rcases Nat.le_total xs.size ys.size with z | z
      · exact .inl (by simp; omega)
      · exact .inr (by simp; omega)
    refine wpAny_bind (z_done (s := { s with heap := h, toks := tk }) (A := A.in1) hh D q nd fun h2 k2 => ?_)
    refine wpAny_pure (fin h2 tk acc cap ts (fun b o n1 n2 e => k2 b o n2 (keep b o n1 n2 e)) (k2 S _ noS eS) (by omega) ⟨g.up, g.hi, fun j t hj => ?_⟩ ea)
    obtain ⟨x, y, e1, e2, e3⟩ := g.look j t hj
    exact ⟨x, y, e1, e2, k2 t _ (ofar t (g.hi t (List.mem_of_getElem? hj))) e3⟩
  | succ k ih =>
    intro i h tk cap acc ts hk hi q keep eS ea el g
    have hlt : i < n := by omega
    have ex : xs[i]? = some (xs[i]'(by omega)) := Array.getElem?_eq_getElem _
    have ey : ys[i]? = some (ys[i]'(by omega)) := Array.getElem?_eq_getElem _
    have esz : acc.size = i := by rw [← Array.length_toList, ea, List.length_map, el]
    have hSl : S < h.objs.size := Heap.lt_size eS
    refine codeAny_builtin PySem.F.entry_extend_loop ?_
    rw [Around.under_plainId PySem.F.plain_extend_loop _]
    show wpAny _ A.in1 (pyNext (.ref c.z) >>= _) _ _ _
    refine wpAny_bind (z_item (s := { s with heap := h, toks := tk }) D q hSl ex ey fun h2 q2 pp k2 => ?_)
    dsimp only at pp k2 ⊢
    have eS2 := k2 S _ noS eS
    have past : ∀ b o, b ≠ S → h2.get? b = some o → (h2.update S (Obj.mapSeq (·.push (Value.ref h.objs.size)))).get? b = some o := fun b o hb e => (Heap.get?_update_other _ _ (Ne.symm hb)).trans e
    show wpAny _ A.in1 (updateSeq S (·.push (Value.ref h.objs.size)) >>= _) _ _ _
    refine wpAny_bind ?_
    refine wpAny_updateSeq eS2 rfl (wpAny_pure ⟨plainId_quiet PySem.F.plain_extend_loop _, ih (i + 1) _ tk _ (acc.push (Value.ref h.objs.size)) (ts ++ [h.objs.size]) (by omega) hlt (q2.keep (fun b hb => Nat.ne_of_lt (far b hb)) past)
      (fun b o n1 n2 e => past b o n1 (k2 b o n2 (keep b o n1 n2 e))) (Heap.get?_update_self _ eS2 rfl) (by rw [Array.toList_push, ea, List.map_append]; rfl) (by rw [List.length_append, el]; rfl) ⟨?_, ?_, ?_⟩⟩) (by rw [esz]; omega) (by show (acc.push (Value.ref h.objs.size)).size ≤ sizeLine + 1; rw [Array.size_push, esz]; omega)
    · refine List.pairwise_append.mpr ⟨g.up, List.pairwise_singleton _ _, fun t ht u hu => ?_⟩
      rw [List.mem_singleton.mp hu]
      exact g.size ht
    · intro t ht
      rcases List.mem_append.mp ht with ht | ht
      · exact g.hi t ht
      · rw [List.mem_singleton.mp ht]; exact hSl
    · intro j t hj
      by_cases h1 : j < ts.length
      · rw [List.getElem?_append_left h1] at hj
        obtain ⟨x, y, e1, e2, e3⟩ := g.look j t hj
        have ht := g.hi t (List.mem_of_getElem? hj)
        exact ⟨x, y, e1, e2, past t _ (Nat.ne_of_gt ht) (k2 t _ (ofar t ht) e3)⟩
      · rw [List.getElem?_append_right (by omega)] at hj
        have ej : j = ts.length := by
          by_cases h2 : j - ts.length = 0
          · omega
          · rw [List.getElem?_eq_none (by simp; omega)] at hj; cases hj
        subst ej
        have et : h.objs.size = t := by simpa using hj
        subst et
        exact ⟨_, _, by rw [el]; exact ex, by rw [el]; exact ey, past _ _ (Nat.ne_of_gt hSl) pp⟩
theorem z_extend (hh : A.handled = none) (D : ZipApart c.z c.TI c.TO c.i1 c.i2 c.l1 c.l2) (far : ∀ b ∈ c.all, b < S) (hn : min xs.size ys.size ≤ sizeLine) (res : Value) (cap : Nat) (q : ZSt c S xs ys s.heap 0) (eS : s.heap.get? S = some { cls := .type "list", data := .seq #[] cap })
    (fin : ∀ h2 tk acc cap ts, (∀ b o, b ≠ S → b ∉ c.mv → s.heap.get? b = some o → h2.get? b = some o) → h2.get? S = some { cls := .type "list", dict := none, data := .seq acc cap, slots := #[] } → ts.length = min xs.size ys.size → ZG xs ys S h2 ts →
      acc.toList = ts.map Value.ref → R (.ok (.ret res)) { s with heap := h2, toks := tk }) :
    wpAny (model P w) A.in1 (Builtin.List.listExtendWith (.ref S) (.ref c.z) res)
      (fun f s2 => match f with | .done f => R (.ok f) s2 | .again d => d.quiet = true ∧ codeAny (model P w) A d R s2) (fun e s2 => R (.error e) s2) s := by
  have hT : s.TypeIs (.ref c.z) "zip" := by
    rcases q.own with ⟨_, a, _⟩ | ⟨_, _, _, a, _⟩
    · exact ⟨_, a, rfl⟩
    · exact ⟨_, a, rfl⟩
  have nz : S ≠ c.z := Nat.ne_of_gt (far c.z (by simp [ZC.all]))
  unfold Builtin.List.listExtendWith
  refine wpAny_bind (wpAny_typeOf hT ?_)
  have d1 : Builtin.List.listSameRef (.ref S) (.ref c.z) = false := by simp [Builtin.List.listSameRef, nz]
  have d2 : (Value.type "zip" == Value.type "list") = false := by decide
  have d3 : (Value.type "zip" == Value.type "tuple") = false := by decide
  simp only [d1, d2, d3, Bool.or_false, Bool.false_eq_true, if_false]
  refine wpAny_bind (z_self q ?_)
  refine wpAny_bind (wpAny_holding ?_)
  unfold Builtin.List.listLengthHint
  refine wpAny_bind (wpAny_specialOf hT zip_noLen ?_)
  show wpAny _ A.in1 (specialOf (Value.ref c.z) (Str.ofString "__length_hint__") >>= _) _ _ _
  refine wpAny_bind (wpAny_specialOf hT zip_noHint ?_)
  refine wpAny_pure ?_
  show wpAny _ A.in1 (rule "list.extend.makes-room" >>= fun _ => Builtin.List.listTouch (.ref S) >>= fun _ =>
    again (.builtin "list.extend.loop" ⟨[.ref S, .ref c.z, res], []⟩)) _ _ _
  refine wpAny_bind (wpAny_rule ?_)
  refine wpAny_bind ?_
  show wpAny _ A.in1 (updateSeq S (·.push .none) >>= fun _ => updateSeq S (·.pop)) _ _ _
  refine wpAny_bind (wpAny_updateSeq eS rfl ?_)
  have eS2 := Heap.get?_update_self (Obj.mapSeq (·.push Value.none)) eS rfl
  refine wpAny_updateSeq (hz := by seq_fits) eS2 rfl ?_
  have eS3 := Heap.get?_update_self (Obj.mapSeq (·.pop)) eS2 rfl
  have past : ∀ b o, b ≠ S → s.heap.get? b = some o → ((s.heap.update S (Obj.mapSeq (·.push Value.none))).update S (Obj.mapSeq (·.pop))).get? b = some o :=
    fun b o hb e => (Heap.get?_update_other _ _ (Ne.symm hb)).trans ((Heap.get?_update_other _ _ (Ne.symm hb)).trans e)
  refine wpAny_pure ⟨plainId_quiet PySem.F.plain_extend_loop _, ?_⟩
  exact z_loop (s := s) (h0 := s.heap) hh D far _ rfl hn res fin _ 0 _ _ _ #[] [] (Nat.sub_zero _) (Nat.zero_le _) (q.keep (fun b hb => Nat.ne_of_lt (far b hb)) past) (fun b o n1 _ e => past b o n1 e) eS3 rfl rfl ⟨List.Pairwise.nil, fun _ h => (nomatch h), fun j t hj => by simp at hj⟩
theorem z_init (hh : A.handled = none) (D : ZipApart c.z c.TI c.TO c.i1 c.i2 c.l1 c.l2) (far : ∀ b ∈ c.all, b < S) (hn : min xs.size ys.size ≤ sizeLine) (q : ZSt c S xs ys s.heap 0) (eS : s.heap.get? S = some { cls := .type "list", data := .seq #[] })
    (fin : ∀ h2 tk acc cap ts, (∀ b o, b ≠ S → b ∉ c.mv → s.heap.get? b = some o → h2.get? b = some o) → h2.get? S = some { cls := .type "list", dict := none, data := .seq acc cap, slots := #[] } → ts.length = min xs.size ys.size → ZG xs ys S h2 ts →
      acc.toList = ts.map Value.ref → R (.ok (.ret .none)) { s with heap := h2, toks := tk }) :
    wpAny (model P w) A.in1 (Builtin.«list.__init__» ⟨[.ref S, .ref c.z], []⟩)
      (fun f s2 => match f with | .done f => R (.ok f) s2 | .again d => d.quiet = true ∧ codeAny (model P w) A d R s2) (fun e s2 => R (.error e) s2) s := by
  show wpAny _ A.in1 (do let old ← Builtin.List.listItems (.ref S); Builtin.List.listUpdate (.ref S) (fun _ => #[]); letGo old.toList.reverse; Builtin.List.listExtendWith (.ref S) (.ref c.z) .none) _ _ s
  refine wpAny_bind ?_
  unfold Builtin.List.listItems
  refine wpAny_bind (wpAny_seqItems eS rfl (wpAny_pure ?_))
  show wpAny _ A.in1 (updateSeq S (fun _ => #[]) >>= fun _ => letGo (#[] : Array Value).toList.reverse >>= fun _ => Builtin.List.listExtendWith (.ref S) (.ref c.z) .none) _ _ s
  refine wpAny_bind (wpAny_updateSeq eS rfl ?_)
  have eS2 := Heap.get?_update_self (Obj.mapSeq (fun _ => (#[] : Array Value))) eS rfl
  have past : ∀ b o, b ≠ S → s.heap.get? b = some o → (s.heap.update S (Obj.mapSeq (fun _ => (#[] : Array Value)))).get? b = some o := fun b o hb e => (Heap.get?_update_other _ _ (Ne.symm hb)).trans e
  refine wpAny_bind (wpAny_letGo ?_)
  refine z_extend hh D far hn .none _ (q.keep (fun b hb => Nat.ne_of_lt (far b hb)) past) eS2 fun h2 tk acc cap ts k => ?_
  exact fin h2 tk acc cap ts fun b o n1 n2 e => k b o n1 n2 (past b o n1 e)
end
theorem z_call {P : Program} {w : World} {A : Around} {E : Value → Shared → Prop} {s : Shared} {c : ZC} {xs ys : Array Value} {Q : Value → Shared → Prop} (hh : A.handled = none) (D : ZipApart c.z c.TI c.TO c.i1 c.i2 c.l1 c.l2) (far : ∀ b ∈ c.all, b < s.heap.objs.size) (hn : min xs.size ys.size ≤ sizeLine)
    (q : ZSt c s.heap.objs.size xs ys s.heap 0)
    (fin : ∀ h2 tk acc cap ts, (∀ b o, b ∉ c.mv → s.heap.get? b = some o → h2.get? b = some o) → h2.get? s.heap.objs.size = some { cls := .type "list", dict := none, data := .seq acc cap, slots := #[] } → ts.length = min xs.size ys.size → ZG xs ys s.heap.objs.size h2 ts →
      acc.toList = ts.map Value.ref → Q (.ref s.heap.objs.size) { s with heap := h2, toks := tk }) :
    wpAny (model P w) A (call (.type "list") [.ref c.z]) Q E s := by
  refine callType_codes (Q₁ := fun obj s1 => obj = .ref s.heap.objs.size ∧ s1 = { s with heap := s.heap.push { cls := .type "list", data := .seq #[] } }) PySem.F.called_list (PySem.F.typeCall_list_1 _) PySem.F.entry_list_init
    (code_list_new _ ⟨rfl, rfl⟩) fun obj s1 h1 => ?_
  obtain ⟨rfl, rfl⟩ := h1
  have eS : (s.heap.push { cls := .type "list", data := .seq #[] }).get? s.heap.objs.size = some { cls := .type "list", data := .seq #[] } := Heap.get?_push_size _ rfl
  refine ⟨⟨_, eS, rfl⟩, PySem.F.args_list_init_2 _ _, z_init (A := A.in1) (s := { s with heap := s.heap.push { cls := .type "list", data := .seq #[] } }) hh D far hn (q.keep (fun b hb => Nat.ne_of_lt (far b hb)) fun b o _ e => Heap.get?_push_of_some _ e) eS fun h2 tk acc cap ts k e1 e2 e3 e4 => ?_⟩
  exact ⟨rfl, fin h2 tk acc cap ts (fun b o n2 e => k b o (Nat.ne_of_lt (Heap.lt_size e)) n2 (Heap.get?_push_of_some _ e)) e1 e2 e3 e4⟩
/-- objects put at their addresses -/
def putF : Hp → List Addr → List HO → Hp
  | H, t :: ts, u :: us => putF (upd H t u) ts us
  | H, _, _ => H
theorem putF_off {b : Addr} : ∀ (ts : List Addr) (us : List HO) (H : Hp), b ∉ ts → putF H ts us b = H b
  | [], _, _, _ => rfl
  | _ :: _, [], _, _ => rfl
  | t :: ts, u :: us, H, h => by
    show putF (upd H t u) ts us b = H b
    rw [putF_off ts us _ (fun z => h (List.mem_cons_of_mem _ z)), upd_ne (fun z => h (by rw [z]; exact List.mem_cons_self))]
theorem putF_at : ∀ (ts : List Addr) (us : List HO) (H : Hp) {j : Nat} {t : Addr} {u : HO}, ts.Nodup → ts[j]? = some t → us[j]? = some u → putF H ts us t = some u
  | [], _, _, _, _, _, _, h, _ => by simp at h
  | _ :: _, [], _, _, _, _, _, _, h => by simp at h
  | t :: ts, u :: us, H, 0, t', u', nd, h, h' => by
    have e1 : t = t' := by simpa using h
    have e2 : u = u' := by simpa using h'
    subst e1 e2
    show putF (upd H t u) ts us t = some u
    rw [putF_off ts us _ (List.nodup_cons.mp nd).1, upd_same]
  | t :: ts, u :: us, H, j + 1, t', u', nd, h, h' => putF_at ts us (upd H t u) (List.nodup_cons.mp nd).2 (by simpa using h) (by simpa using h')
theorem z_laid {X : Cx} {pins : List (Addr × Obj)} {σ : L2.St} {H : Hp} {s : Shared} {h2 : Heap} {tk S cap : Nat} {acc : Array Value} {ts : List Addr} {us : List HO} (I : Inv X pins σ H s) (kp : ∀ b o, s.heap.get? b = some o → h2.get? b = some o)
    (hS : s.heap.objs.size ≤ S) (eS : h2.get? S = some { cls := .type "list", dict := none, data := .seq acc cap, slots := #[] }) (ea : acc.toList = ts.map Value.ref) (hl : ts.length ≤ sizeLine) (nd : ts.Nodup) (nS : S ∉ ts) (hi : ∀ t ∈ ts, s.heap.objs.size ≤ t) (el : us.length = ts.length)
    (hu : ∀ (j : Nat) (t : Addr) (u : HO), ts[j]? = some t → us[j]? = some u → ObjOk X.prog X.w (upd (putF H ts us) S (.lst (ts.map V.ref))) h2 t u) :
    Inv X pins σ (upd (putF H ts us) S (.lst (ts.map V.ref))) { s with heap := h2, toks := tk } := by
  have low : ∀ b o, s.heap.get? b = some o → b ∉ ts ∧ b ≠ S := fun b o e => ⟨fun z => absurd (Heap.lt_size e) (Nat.not_lt.mpr (hi b z)), fun z => absurd (Heap.lt_size e) (Nat.not_lt.mpr (z ▸ hS))⟩
  have off : ∀ b, b ∉ ts → b ≠ S → upd (putF H ts us) S (.lst (ts.map V.ref)) b = H b := fun b h1 h3 => by rw [upd_ne h3, putF_off ts us _ h1]
  have newS : H S = none := I.hok.fresh hS
  have up : ∀ b u, H b = some u → upd (putF H ts us) S (.lst (ts.map V.ref)) b = some u := fun b u e => by
    rw [off b (fun z => by rw [I.hok.fresh (hi b z)] at e; cases e) (fun z => by rw [z, newS] at e; cases e)]
    exact e
  refine I.call' (ch := []) rfl ⟨fun b o q _ _ _ => kp b o q, fun b o q _ _ _ => ⟨o.slots, kp b o q⟩, fun b o q n _ => ?_, fun b o q _ => ⟨o, kp b o q⟩, fun b xs q => up b _ q, fun b o u q => up b _ q, fun b ps q => ⟨#[], by rw [up b _ q]; simp⟩⟩ (fun b u q => ?_) I.bare fun b z => by simp at z
  · obtain ⟨z1, z2⟩ := low b o q
    rw [off b z1 z2]
    exact n
  · by_cases hS2 : b = S
    · subst hS2
      rw [upd_same] at q
      cases q
      refine ⟨by rw [List.length_map]; exact hl, acc.toList, cap, by rw [ea]; exact LiI.vals_refs ts, ?_⟩
      rw [Array.toArray_toList]
      exact eS
    · by_cases hb : b ∈ ts
      · obtain ⟨j, ej⟩ := List.mem_iff_getElem?.mp hb
        obtain ⟨hj, _⟩ := List.getElem?_eq_some_iff.mp ej
        have eu : us[j]? = some (us[j]'(by omega)) := List.getElem?_eq_getElem _
        have e := putF_at ts us H nd ej eu
        rw [upd_ne hS2, e] at q
        cases q
        exact hu j b _ ej eu
      · rw [off b hb hS2] at q
        exact (I.hok b u q).stay (fun d v _ y => kp d v y) (fun d y => up d _ y) fun d xs y => up d _ y
/-- list(zip(a, b)) of two lists -/
def tZipL (K : PySem.W.Frag) (ta : TA) : TE := fun σ H Q => ta σ H fun vs H1 => ∃ a b xs ys, vs = [.ref a, .ref b] ∧ SqL K H1 a xs ∧ SqL K H1 b ys ∧ xs.length ≤ sizeLine ∧
  ∀ (ts : List Addr) (us : List HO) (S : Addr), ts.length = min xs.length ys.length → us.length = ts.length → ts.Nodup → (∀ t ∈ ts, H1 t = none) → S ∉ ts → H1 S = none → (∀ (j : Nat) (u : HO) (x y : V), us[j]? = some u → xs[j]? = some x → ys[j]? = some y → IsTO u [x, y]) → Q (.ref S) (upd (putF H1 ts us) S (.lst (ts.map V.ref)))
theorem pe_zipL {X : Cx} {a b : Expr} {ta : TA} {p p2 q pos : Pos} (hc : X.calm = true) (hg : Gl X "list") (hm : X.mg "list" = none) (hg2 : Gl X "zip") (hm2 : X.mg "zip" = none) (ha : PA X [a, b] ta)
    (hs : starEach [a, b] X.env = (false, eval a X.env) :: starEach [b] X.env := by rfl) (hpl : (backTo q (starEach [b] X.env)).any (·.1) = false := by rfl)
    (hs2 : starEach [.Call (.Name "zip" p2) [a, b] [] q] X.env = (false, eval (.Call (.Name "zip" p2) [a, b] [] q) X.env) :: starEach [] X.env := by rfl) :
    PE X (.Call (.Name "list" p) [.Call (.Name "zip" p2) [a, b] [] q] [] pos) (tZipL X.K ta) := by
  refine ⟨fun pins s σ H Q I h => ?_⟩
  refine Call_ (ld_blt I hg hm (by decide +kernel : bootBuiltins "list" = some (.type "list")) ?_)
  refine PyProof.Rows.callWith_type1 (PyProof.Rows.args_cons ?_ rfl) hs2 rfl
  refine Call_ (ld_blt I hg2 hm2 PyProof.Rows.boot_zip (PyProof.Rows.callWith_type1 (thn (ha.run q pins s σ H _ I h) fun us s1 ⟨vs, H1, I1, r1, q1⟩ => ?_) hs hpl))
  obtain ⟨a1, b1, xs, ys, ex, hqx, hqy, hln, q1⟩ := q1
  subst ex
  cases r1 with
  | cons r rr =>
    cases rr with
    | cons r' rr =>
      cases rr
      cases r
      cases r'
      obtain ⟨its, rv, p1, _⟩ := I1.list hqx
      obtain ⟨its2, rv2, p2', _⟩ := I1.list hqy
      have p1 := p1.isList
      have p2' := p2'.isList
      have la : a1 < s1.heap.objs.size := let ⟨_, e, _⟩ := p1; Heap.lt_size e
      have lb : b1 < s1.heap.objs.size := let ⟨_, e, _⟩ := p2'; Heap.lt_size e
      have n1 : its.toArray.size = xs.length := by rw [List.size_toArray, rv.length]
      have n2 : its2.toArray.size = ys.length := by rw [List.size_toArray, rv2.length]
      refine call_zip_2 p1 p2' fun h1 hz hTI hTO j1 j2 hsz hk => PyProof.Rows.args_nil ?_
      have far : ∀ c ∈ (ZC.mk (s1.heap.objs.size + 4) (s1.heap.objs.size + 2) (s1.heap.objs.size + 3) s1.heap.objs.size (s1.heap.objs.size + 1) a1 b1).all, c < h1.objs.size := fun c hcm => by
        rw [hsz]
        simp only [ZC.all, List.mem_cons, List.not_mem_nil, or_false] at hcm
        have l : ∀ k : Nat, k < 5 → s1.heap.objs.size + k < s1.heap.objs.size + 5 := fun k hk => Nat.add_lt_add_left hk _
        rcases hcm with z | z | z | z | z | z | z <;> rw [z]
        · exact l 4 (by decide)
        · exact l 2 (by decide)
        · exact l 3 (by decide)
        · exact l 0 (by decide)
        · exact l 1 (by decide)
        · exact Nat.lt_of_lt_of_le la (Nat.le_add_right _ _)
        · exact Nat.lt_of_lt_of_le lb (Nat.le_add_right _ _)
      have newer : ∀ c ∈ (ZC.mk (s1.heap.objs.size + 4) (s1.heap.objs.size + 2) (s1.heap.objs.size + 3) s1.heap.objs.size (s1.heap.objs.size + 1) a1 b1).mv, s1.heap.objs.size ≤ c := fun c hcm => by
        simp only [ZC.mv, List.mem_cons, List.not_mem_nil, or_false] at hcm
        rcases hcm with z | z | z | z | z <;> rw [z] <;> first | exact Nat.le_add_right _ _ | exact Nat.le_refl _
      have st : ZSt (ZC.mk (s1.heap.objs.size + 4) (s1.heap.objs.size + 2) (s1.heap.objs.size + 3) s1.heap.objs.size (s1.heap.objs.size + 1) a1 b1) h1.objs.size its.toArray its2.toArray h1 0 :=
        ⟨.inl ⟨rfl, hz, _, _, hTO⟩, hTI, j1, j2, p1.at fun o e => hk _ o e, p2'.at fun o e => hk _ o e⟩
      refine z_call (s := { s1 with heap := h1 }) (I1.ok.hd hc) (PySem.W.ktu_apart s1.heap.objs.size a1 b1 la lb) far (by omega) st fun h2 tk acc cap ts k e1 e2 g ea => ?_
      have kp : ∀ c o, s1.heap.get? c = some o → h2.get? c = some o := fun c o e => k c o (fun z => absurd (Heap.lt_size e) (Nat.not_lt.mpr (newer c z))) (hk c o e)
      have hS : s1.heap.objs.size ≤ h1.objs.size := by rw [hsz]; exact Nat.le_add_right _ _
      have nd : ts.Nodup := List.Pairwise.imp (fun {a b} (h : a < b) => Nat.ne_of_lt h) g.up
      have hi : ∀ t ∈ ts, s1.heap.objs.size ≤ t := fun t ht => Nat.le_trans hS (Nat.le_of_lt (g.hi t ht))
      let mk : Nat → HO := fun j => .frz { cls := .type "tuple", data := .seq #[its.getD j .none, its2.getD j .none] } (.tup [xs.getD j .non, ys.getD j .non])
      have et : ∀ (j : Nat) (t : Addr), ts[j]? = some t → ∃ u v x y, its[j]? = some u ∧ its2[j]? = some v ∧ xs[j]? = some x ∧ ys[j]? = some y ∧ IsPair h2 t u v ∧ L2.RelV x u ∧ L2.RelV y v := fun j t ej => by
        obtain ⟨u, v, eu, ev, pp⟩ := g.look j t ej
        have eu : its[j]? = some u := by simpa using eu
        have ev : its2[j]? = some v := by simpa using ev
        obtain ⟨hj, _⟩ := List.getElem?_eq_some_iff.mp eu
        obtain ⟨hj2, _⟩ := List.getElem?_eq_some_iff.mp ev
        have hx : xs[j]? = some (xs[j]'(by rw [rv.length]; exact hj)) := List.getElem?_eq_getElem _
        have hy : ys[j]? = some (ys[j]'(by rw [rv2.length]; exact hj2)) := List.getElem?_eq_getElem _
        obtain ⟨u', eu', ru⟩ := rv.get hx
        obtain ⟨v', ev', rv'⟩ := rv2.get hy
        rw [eu] at eu'; cases eu'
        rw [ev] at ev'; cases ev'
        exact ⟨u, v, _, _, eu, ev, hx, hy, pp, ru, rv'⟩
      have lt : ts.length ≤ sizeLine := by rw [e2, n1]; omega
      refine ⟨.ref h1.objs.size, _, z_laid (s := s1) (tk := tk) (us := (List.range ts.length).map mk) I1 kp hS e1 ea lt nd (fun z => Nat.lt_irrefl _ (g.hi _ z)) hi (by simp) (fun j t u ej eu => ?_), rfl, q1 ts _ h1.objs.size (by rw [e2, n1, n2]) (by simp) nd (fun t ht => I1.hok.fresh (hi t ht)) (fun z => Nat.lt_irrefl _ (g.hi _ z)) (I1.hok.fresh hS) fun j u x y eu ex ey => ?_⟩
      · obtain ⟨hj, _⟩ := List.getElem?_eq_some_iff.mp ej
        obtain ⟨u0, v0, x0, y0, f1, f2, f3, f4, pp, ru, rw'⟩ := et j t ej
        have e : mk j = u := by simpa [hj] using eu
        rw [← e]
        simp only [mk, List.getD_eq_getElem?_getD, f1, f2, f3, f4, Option.getD_some]
        exact ⟨pp, show 2 ≤ sizeLine by decide, [u0, v0], .cons ru (.cons rw' .nil), _, pp, rfl, _, rfl⟩
      · have hj : j < ts.length := by
          obtain ⟨h, _⟩ := List.getElem?_eq_some_iff.mp eu
          simpa using h
        have e : mk j = u := by simpa [hj] using eu
        rw [← e]
        refine ⟨{ cls := .type "tuple", data := .seq #[its.getD j .none, its2.getD j .none] }, ?_, rfl, rfl⟩
        simp only [mk, List.getD_eq_getElem?_getD, ex, ey, Option.getD_some]
end FM

set_option autoImplicit false
/-! list(zip), [::-1], a tuple times an int, isinstance, starred displays, max of a tuple -/
namespace FM
open PySem PySem.Spec PyProof.Rows L2
variable [Tbl]
theorem putF_grow {K : PySem.W.Frag} : ∀ (ts : List Addr) (us : List HO) (ps : List (Val × Val)) {H : Hp} {μ : Mu} {s : S}, Mem K H μ s → ts.Nodup → (∀ t ∈ ts, H t = none) → us.length = ts.length → ps.length = ts.length →
    (∀ (j : Nat) (u : HO) (p : Val × Val), us[j]? = some u → ps[j]? = some p → ∃ x y, IsTO u [x, y] ∧ Rep K H μ p.1 x ∧ Rep K H μ p.2 y) →
    Grow μ H μ (putF H ts us) ∧ Mem K (putF H ts us) μ s ∧ RepAll K (putF H ts us) μ (ps.map fun p => .tup [p.1, p.2]) (ts.map V.ref)
  | [], [], [], H, μ, s, m, _, _, _, _, _ => ⟨.refl m, m, .nil⟩
  | t :: ts, u :: us, p :: ps, H, μ, s, m, nd, nn, h1, h2, hp => by
    have nd2 := List.nodup_cons.mp nd
    have ht := nn t List.mem_cons_self
    obtain ⟨x, y, tu, rx, ry⟩ := hp 0 u p rfl rfl
    have g1 : Grow μ H μ (upd H t u) := m.new ht
    have m1 : Mem K (upd H t u) μ s := m.upd_new ht
    have q := putF_grow ts us ps (H := upd H t u) m1 nd2.2 (fun t' ht' => by rw [upd_ne (fun (e : t' = t) => nd2.1 (by rw [← e]; exact ht'))]; exact nn t' (List.mem_cons_of_mem _ ht')) (by simpa using h1) (by simpa using h2) fun j u' p' e1 e2 => by
      obtain ⟨x', y', tu', rx', ry'⟩ := hp (j + 1) u' p' (by simpa using e1) (by simpa using e2)
      exact ⟨x', y', tu', Rep.mono g1 m _ _ rx', Rep.mono g1 m _ _ ry'⟩
    obtain ⟨g2, m2, r2⟩ := q
    refine ⟨g1.trans g2, m2, .cons ?_ r2⟩
    have r0 : Rep K (upd H t u) μ (.tup [p.1, p.2]) (.ref t) := by
      unfold Rep
      exact ⟨t, [x, y], rfl, .of upd_same tu, show 2 ≤ sizeLine by decide, .cons (Rep.mono g1 m _ _ rx) (.cons (Rep.mono g1 m _ _ ry) .nil)⟩
    exact Rep.mono g2 m1 _ _ r0
  | [], u :: us, _, _, _, _, _, _, _, h1, _, _ => by simp at h1
  | [], [], p :: ps, _, _, _, _, _, _, _, h2, _ => by simp at h2
  | t :: ts, [], _, _, _, _, _, _, _, h1, _, _ => by simp at h1
  | t :: ts, u :: us, [], _, _, _, _, _, _, _, h2, _ => by simp at h2
/-- list(zip(a list, a list)) -/
def fZipL (a b : Ex) : Fx := fun ρ s => (a ρ s).bind fun x s1 => (b ρ s1).bind fun y s2 => match asL s2 x, asL s2 y with
  | some xs, some ys => .ok ((xs.zip ys).map fun p => .tup [p.1, p.2]) s2
  | _, _ => .no
/-- a list's items turned about -/
def fRev (a : Ex) : Fx := fun ρ s => (a ρ s).bind fun x s1 => match asL s1 x with
  | some xs => .ok xs.reverse s1
  | none => .no
theorem RepAll.rev {K : PySem.W.Frag} {H : Hp} {μ : Mu} : ∀ {xs : List Val} {vs : List V}, RepAll K H μ xs vs → RepAll K H μ xs.reverse vs.reverse
  | [], vs, h => by unfold RepAll at h; subst h; exact .nil
  | x :: xs, vs, h => by
    unfold RepAll at h
    obtain ⟨w, ws, rfl, h1, h2⟩ := h
    rw [List.reverse_cons, List.reverse_cons]
    exact (RepAll.rev h2).append (.one h1)
section
variable {ι : Type} {X : ι → Cx} {K : PySem.W.Frag} {EW : XK} {a b : Expr} {es : List Expr} {ma mb : Ex} {mas : Ax} {pos p p2 q : Pos}
theorem mf_zipL (c : CxF X K) (hg : ∀ i, Gl (X i) "list") (hm : ∀ i, (X i).mg "list" = none) (hg2 : ∀ i, Gl (X i) "zip") (hm2 : ∀ i, (X i).mg "zip" = none) (ha : ME X K EW a ma) (hb : ME X K EW b mb)
    (hs : ∀ i, starEach [a, b] (X i).env = (false, eval a (X i).env) :: starEach [b] (X i).env := by intro _; rfl) (hs2 : ∀ i, starEach [b] (X i).env = (false, eval b (X i).env) :: starEach [] (X i).env := by intro _; rfl)
    (hpl : ∀ i, (backTo q (starEach [b] (X i).env)).any (·.1) = false := by intro _; rfl)
    (hs3 : ∀ i, starEach [.Call (.Name "zip" p2) [a, b] [] q] (X i).env = (false, eval (.Call (.Name "zip" p2) [a, b] [] q) (X i).env) :: starEach [] (X i).env := by intro _; rfl) :
    MF X K EW (.Call (.Name "list" p) [.Call (.Name "zip" p2) [a, b] [] q] [] pos) (fZipL ma mb) := by
  obtain ⟨ta, pa, sa⟩ := ha.ex
  obtain ⟨tb, pb, sb⟩ := hb.ex
  refine ⟨⟨tZipL K (tCons ta (tCons tb tNil)), fun i => c.kk i ▸ pe_zipL (c.calm i) (hg i) (hm i) (hg2 i) (hm2 i) (pa_cons (pa i) (pa_cons (pb i) pa_nil (hs2 i)) (hs i)) (hs i) (hpl i) (hs3 i), fun σ H ρ μ s Q hr m h => ?_⟩⟩
  refine sa σ H ρ μ s _ hr m (wp_mono (wp_bind h) (fun v s1 h1 => ?_) fun _ _ q => q)
  intro x H1 μ1 g1 m1 r1
  refine sb σ H1 ρ μ1 s1 _ (hr.mono g1 m) m1 (wp_mono (wp_bind h1) (fun u s2 h2 => ?_) fun _ _ q => q.mono g1)
  intro y H2 μ2 g2 m2 r2
  have r1 := Rep.mono g2 m1 v x r1
  have g12 := g1.trans g2
  cases ea : asL s2 v with
  | none => rw [ea] at h2; exact False.elim h2
  | some xs =>
    cases eb : asL s2 u with
    | none => rw [ea, eb] at h2; exact False.elim h2
    | some ys =>
      rw [ea, eb] at h2
      obtain ⟨q1, vs, ex, hq1, hl1, rr1⟩ := rep_asL m2 r1 ea
      obtain ⟨q2, ws, ey, hq2, hl2, rr2⟩ := rep_asL m2 r2 eb
      refine ⟨q1, q2, vs, ws, by rw [ex, ey], hq1, hq2, hl1, fun ts us S e1 e2 nd nn nS hS tu => ?_⟩
      have lz : (xs.zip ys).length = ts.length := by rw [e1, List.length_zip, rr1.length, rr2.length]
      obtain ⟨g3, m3, r3⟩ := putF_grow ts us (xs.zip ys) m2 nd nn e2 lz fun j w pr h1 h3 => by
        obtain ⟨f1, f2⟩ := List.getElem?_zip_eq_some.mp h3
        obtain ⟨x1, hx1, rx1⟩ := rr1.get f1
        obtain ⟨y1, hy1, ry1⟩ := rr2.get f2
        exact ⟨x1, y1, tu j w x1 y1 h1 hx1 hy1, rx1, ry1⟩
      have hS3 : putF H2 ts us S = none := by rw [putF_off ts us H2 nS]; exact hS
      exact fs_new h2 (g12.trans g3) m3 (by rw [List.length_map, e1]; omega) r3 S hS3
theorem mf_rev {k : Nat} {p1 p3 p4 : Pos} (c : CxF X K) (ha : ME X K EW a ma) : MF X K EW (.Subscript a (.Slice none none (some (.UnaryOp .USub (.Constant (.int 1) k p1) p3)) p4) pos) (fRev ma) := by
  obtain ⟨ta, pa, sa⟩ := ha.ex
  refine ⟨⟨tRevL K ta, fun i => c.kk i ▸ pe_revL (pa i), fun σ H ρ μ s Q hr m h => ?_⟩⟩
  refine sa σ H ρ μ s _ hr m (wp_mono (wp_bind h) (fun v s1 h1 => ?_) fun _ _ q => q)
  intro x H1 μ1 g1 m1 r1
  cases ea : asL s1 v with
  | none => rw [ea] at h1; exact False.elim h1
  | some xs =>
    rw [ea] at h1
    obtain ⟨q1, vs, ex, hq1, hl1, rr1⟩ := rep_asL m1 r1 ea
    exact ⟨q1, vs, ex, hq1, fs_new h1 g1 m1 (by rw [List.length_reverse]; exact hl1) (RepAll.rev rr1)⟩
/-! ### starred displays -/
structure MB {ι : Type} (X : ι → Cx) (K : PySem.W.Frag) (EW : XK) (es : List Expr) (m : Ax) : Prop where
  ex : ∃ t, (∀ i, PA (X i) es t) ∧ ∀ σ H ρ μ s Q, SR K H μ ρ σ → Mem K H μ s → (m ρ s).wp (AsP K μ H Q) (XP K μ H EW) → t σ H Q
theorem mb_nil : MB X K EW [] aNil := ⟨⟨tNil, fun _ => pa_nil, fun σ H ρ μ s Q hr m h => h [] H μ (.refl m) m .nil⟩⟩
theorem mb_cons (ha : ME X K EW a ma) (hb : MB X K EW es mas) (hs : ∀ i, starEach (a :: es) (X i).env = (false, eval a (X i).env) :: starEach es (X i).env := by intro _; rfl) : MB X K EW (a :: es) (aCons ma mas) := by
  obtain ⟨ta, pa, sa⟩ := ha.ex
  obtain ⟨tb, pb, sb⟩ := hb.ex
  refine ⟨⟨_, fun i => pa_cons (pa i) (pb i) (hs i), fun σ H ρ μ s Q hr m h => ?_⟩⟩
  refine sa σ H ρ μ s _ hr m (wp_mono (wp_bind h) (fun v s1 h1 => ?_) fun _ _ q => q)
  intro x H1 μ1 g1 m1 r1
  refine sb σ H1 ρ μ1 s1 _ (hr.mono g1 m) m1 (wp_mono (wp_bind h1) (fun vs s2 h2 => ?_) fun _ _ q => q.mono g1)
  intro ys H2 μ2 g2 m2 r2
  exact h2 _ H2 μ2 (g1.trans g2) m2 (.cons (Rep.mono g2 m1 v x r1) r2)
/-- *a, .. : the items as they stand when they are handed over -/
def aStar (a : Ex) (r : Ax) : Ax := fun ρ s => (a ρ s).bind fun x s1 => (ofO (asQ s1 x) s1).bind fun xs s2 => (r ρ s2).bind fun ys s3 => .ok (xs ++ ys) s3
theorem mb_star (c : CxF X K) (ha : ME X K EW a ma) (hb : MB X K EW es mas) (hs : ∀ i, starEach (.Starred a p :: es) (X i).env = (true, eval a (X i).env) :: starEach es (X i).env := by intro _; rfl) : MB X K EW (.Starred a p :: es) (aStar ma mas) := by
  obtain ⟨ta, pa, sa⟩ := ha.ex
  obtain ⟨tb, pb, sb⟩ := hb.ex
  refine ⟨⟨StX.tStar K ta tb, fun i => c.kk i ▸ StX.pa_star (pa i) (pb i) (hs i), fun σ H ρ μ s Q hr m h => ?_⟩⟩
  refine sa σ H ρ μ s _ hr m (wp_mono (wp_bind h) (fun v s1 h1 => ?_) fun _ _ q => q)
  intro x H1 μ1 g1 m1 r1
  have h1 := wp_bind h1
  obtain ⟨xs, ea, h1⟩ := wp_ofO h1
  obtain ⟨q1, vs, ex, hq1, hl1, rr1⟩ := rep_asQ m1 r1 ea
  refine ⟨q1, vs, ex, hq1.symm, ?_⟩
  refine sb σ H1 ρ μ1 s1 _ (hr.mono g1 m) m1 (wp_mono (wp_bind h1) (fun ys s2 h2 => ?_) fun _ _ q => q.mono g1)
  intro zs H2 μ2 g2 m2 r2
  exact h2 _ H2 μ2 (g1.trans g2) m2 ((RepAll.mono g2 m1 xs vs rr1).append r2)
def eTupS (a : Ax) : Ex := fun ρ s => (a ρ s).bind fun xs s1 => if xs.length ≤ sizeLine then .ok (.tup xs) s1 else .no
theorem me_tupS {k : Nat} (ha : MB X K EW es mas) : ME X K EW (.Tuple es k pos) (eTupS mas) := by
  obtain ⟨ta, pa, sa⟩ := ha.ex
  refine ⟨⟨_, fun i => pe_tupF (pa i), fun σ H ρ μ s Q hr m h => ?_⟩⟩
  refine sa σ H ρ μ s _ hr m (wp_mono (wp_bind h) (fun v s1 h1 => ?_) fun _ _ q => q)
  intro x H1 μ1 g1 m1 r1
  split at h1
  · rename_i hl
    have el : x.length ≤ sizeLine := by rw [r1.length]; exact hl
    refine ⟨el, fun p u hp tu => ?_⟩
    have g2 : Grow μ1 H1 μ1 (upd H1 p u) := m1.new hp
    refine h1 _ _ μ1 (g1.trans g2) (m1.upd_new hp) ?_
    unfold Rep
    exact ⟨p, x, rfl, .of upd_same tu, el, RepAll.mono g2 m1 _ _ r1⟩
  · exact False.elim h1
end
end FM

set_option autoImplicit false
/-! isinstance, a tuple times an int, max of a tuple -/
namespace FM
open PySem PySem.Spec PyProof.Rows L2
variable [Tbl]
def tyN : Val → Option String
  | .non => some "NoneType"
  | .bl _ => some "bool"
  | .int _ => some "int"
  | .str _ => some "str"
  | .tup _ => some "tuple"
  | .lst _ => some "list"
  | _ => none
def isiInt (v : Val) : Option Bool := match v with
  | .int _ | .bl _ => some true
  | .non | .str _ | .tup _ | .lst _ => some false
  | _ => none
def isiBool (v : Val) : Option Bool := match v with
  | .bl _ => some true
  | .int _ | .non | .str _ | .tup _ | .lst _ => some false
  | _ => none
def isiTup (v : Val) : Option Bool := match v with
  | .tup _ => some true
  | .int _ | .bl _ | .non | .str _ | .lst _ => some false
  | _ => none
def isiStr (v : Val) : Option Bool := match v with
  | .str _ => some true
  | .int _ | .bl _ | .non | .tup _ | .lst _ => some false
  | _ => none
def IsiOk (T : String) (f : Val → Option Bool) : Prop := ∀ v b, f v = some b → ∃ n, tyN v = some n ∧ kitB n T = some b
theorem isi_int : IsiOk "int" isiInt := by
  intro v b h
  cases v <;> simp only [isiInt, Option.some.injEq] at h <;> first | (subst h; refine ⟨_, rfl, ?_⟩; decide +kernel) | cases h
theorem isi_bool : IsiOk "bool" isiBool := by
  intro v b h
  cases v <;> simp only [isiBool, Option.some.injEq] at h <;> first | (subst h; refine ⟨_, rfl, ?_⟩; decide +kernel) | cases h
theorem isi_tup : IsiOk "tuple" isiTup := by
  intro v b h
  cases v <;> simp only [isiTup, Option.some.injEq] at h <;> first | (subst h; refine ⟨_, rfl, ?_⟩; decide +kernel) | cases h
theorem isi_str : IsiOk "str" isiStr := by
  intro v b h
  cases v <;> simp only [isiStr, Option.some.injEq] at h <;> first | (subst h; refine ⟨_, rfl, ?_⟩; decide +kernel) | cases h
theorem rep_ty {K : PySem.W.Frag} {H : Hp} {μ : Mu} {v : Val} {x : V} {n : String} (r : Rep K H μ v x) (e : tyN v = some n) : TyX K H x (.type n) := by
  cases v <;> simp only [tyN, Option.some.injEq] at e <;> first | subst e | cases e
  · unfold Rep at r; subst r; exact .base .non
  · unfold Rep at r; subst r; exact .base (.bl _)
  · unfold Rep at r; subst r; exact .base (.int _)
  · unfold Rep at r; subst r; exact .base (.str _)
  · unfold Rep at r
    obtain ⟨a, vs, rfl, h, _⟩ := r
    rcases h with ⟨u, h, o, e, _, _⟩ | ⟨o, its, n, h1, h2, _, h3⟩
    · subst e; exact .fTuple h
    · exact .kTuple h1 h2
  · unfold Rep at r
    obtain ⟨a, vs, rfl, h, _⟩ := r
    exact .base (.lst h)
/-- isinstance(a, T) -/
def eIsi (f : Val → Option Bool) (a : Ex) : Ex := fun ρ s => (a ρ s).bind fun v s1 => ofO ((f v).map .bl) s1
section
variable {ι : Type} {X : ι → Cx} {K : PySem.W.Frag} {EW : XK} {a : Expr} {ma : Ex} {pos p p2 : Pos}
theorem me_isi {T : Str} {Tn : String} {f : Val → Option Bool} (c : CxF X K) (ok : IsiOk Tn f) (hg : ∀ i, Gl (X i) "isinstance") (hm : ∀ i, (X i).mg "isinstance" = none) (hgT : ∀ i, Gl (X i) T) (hmT : ∀ i, (X i).mg T = none) (hv : bootBuiltins T = some (.type Tn)) (ha : ME X K EW a ma)
    (hT : T ≠ "__name__" := by decide) (hT2 : (T == ("__debug__" : Str)) = false := by decide)
    (he : ∀ i, starEach [a, .Name T p2] (X i).env = (false, eval a (X i).env) :: starEach [.Name T p2] (X i).env := by intro _; rfl) (he2 : ∀ i, starEach [.Name T p2] (X i).env = (false, eval (.Name T p2) (X i).env) :: starEach [] (X i).env := by intro _; rfl)
    (hpl : ∀ i, (backTo pos (starEach [.Name T p2] (X i).env)).any (·.1) = false := by intro _; rfl) : ME X K EW (.Call (.Name "isinstance" p) [a, .Name T p2] [] pos) (eIsi f ma) := by
  obtain ⟨ta, pa, sa⟩ := ha.ex
  have pT : ∀ i, PE (X i) (.Name T p2) (tC (.ty Tn)) := fun i => pe_bltn (hgT i) (hmT i) hv rfl hT hT2
  refine ⟨⟨_, fun i => c.kk i ▸ pe_callB call_isi (hg i) (hm i) (by decide +kernel) (pa_cons (pa i) (pa_cons (pT i) pa_nil (he2 i)) (he i)) (hn := by decide) (hdb := by decide) (he := he i) (hpl := hpl i), fun σ H ρ μ s Q hr m h => ?_⟩⟩
  refine sa σ H ρ μ s _ hr m (wp_mono (wp_bind h) (fun v s1 h1 => ?_) fun _ _ q => q)
  intro x H1 μ1 g1 m1 r1
  obtain ⟨w, e, q⟩ := wp_ofO h1
  obtain ⟨b, eb, ew⟩ := Option.map_eq_some_iff.mp e
  subst ew
  obtain ⟨n, en, ek⟩ := ok v b eb
  exact ⟨x, .ty Tn, .type n, .type Tn, b, rfl, .ty Tn, rep_ty r1 en, kit_ty ek, q _ H1 μ1 g1 m1 rep_of_bl⟩
end
/-! ### a tuple times an int -/
theorem tup_times1 (l : Addr) (items : Array Value) (n : Nat) (dd : Option Addr) (sl : Array (Option Value)) (u : Tok) :
    Meets (Builtin.«tuple.__mul__» ⟨[.ref l, .int 1 u], []⟩) (fun _ R s => s.heap.get? l = some ⟨.type "tuple", dd, .seq items n, sl⟩ ∧ R (.ok (.ret (.ref l))) s) :=
  .of_wp fun P w A R s h => by
    obtain ⟨hp, g, d, tk, os⟩ := s
    obtain ⟨hl, h⟩ := h
    have f1 := AutoSeq1.idx_int
    have c0 : (decide ((1 : Int) < -(2 ^ 63)) || decide ((1 : Int) ≥ 2 ^ 63)) = false := by decide
    have c1 : (items.isEmpty || (1 : Int) == 1) = true := by simp
    wp_walk using wpAny_loadPart' hl
    repeat (first
      | (refine wpAny_ite_false (decide_eq_false (by rw [c0]; exact Bool.false_ne_true)) ?_; wp_walk using wpAny_loadPart' hl)
      | (refine wpAny_ite_true (decide_eq_true c1) ?_; wp_walk using wpAny_loadPart' hl))
    exact ⟨_, rfl, h⟩
theorem tup_times0 (l : Addr) (items : Array Value) (n : Nat) (dd : Option Addr) (sl : Array (Option Value)) (x : Int) (u : Tok) (h0 : -(2 ^ 63) ≤ x) (h1 : x ≤ 0) (ne : items.isEmpty = false) :
    Meets (Builtin.«tuple.__mul__» ⟨[.ref l, .int x u], []⟩) (fun _ R s => s.heap.get? l = some ⟨.type "tuple", dd, .seq items n, sl⟩ ∧ R (.ok (.ret (.ref s.heap.objs.size))) { s with heap := s.heap.push { cls := .type "tuple", data := .seq #[] } }) :=
  .of_wp fun P w A R s h => by
    obtain ⟨hp, g, d, tk, os⟩ := s
    obtain ⟨hl, h⟩ := h
    have f1 := AutoSeq1.idx_int
    have c0 : (decide (x < -(2 ^ 63)) || decide (x ≥ 2 ^ 63)) = false := by rw [decide_eq_false (by omega), decide_eq_false (by omega)] <;> rfl
    have c1 : (items.isEmpty || x == 1) = false := by rw [ne, Bool.false_or]; exact beq_eq_false_iff_ne.mpr (by omega)
    have c2 : (decide (x ≤ 0) || items.isEmpty) = true := by rw [decide_eq_true h1]; rfl
    wp_walk using wpAny_loadPart' hl
    repeat (first
      | (refine wpAny_ite_false (decide_eq_false (by rw [c0]; exact Bool.false_ne_true)) ?_; wp_walk using wpAny_loadPart' hl)
      | (refine wpAny_ite_false (decide_eq_false (by rw [c1]; exact Bool.false_ne_true)) ?_; wp_walk using wpAny_loadPart' hl)
      | (refine wpAny_ite_true (decide_eq_true c2) ?_; wp_walk using wpAny_loadPart' hl))
    exact ⟨_, rfl, h⟩
def rTimes (K : PySem.W.Frag) : R2 := fun x y H Q => ∃ l k xs, x = .ref l ∧ y = .int k ∧ SqT K H l xs ∧ xs ≠ [] ∧ -(2 ^ 63) ≤ k ∧ k ≤ 1000 ∧ xs.length ≤ 1000 ∧
  (k = 1 → Q (.ref l) H) ∧ (k ≤ 0 → ∀ p u, H p = none → IsTO u [] → Q (.ref p) (upd H p u)) ∧ (2 ≤ k → ∀ p u, H p = none → IsTO u (List.replicate k.toNat xs).flatten → Q (.ref p) (upd H p u))
theorem op_times {X : Cx} : OpR X (binaryOp .Mult) (rTimes X.K) := by
  intro pins s σ H x y v u Q I rx ry h
  obtain ⟨l, k, xs, rfl, rfl, hT, hne, h0, h1, hz, q1, q0, q2⟩ := h
  cases rx
  obtain ⟨t, rfl⟩ := ry
  obtain ⟨us, r, ⟨⟨cls, dd, data, sl⟩, ho, hc, n, hd⟩, hs⟩ := I.tuple hT
  simp only at hc hd
  subst hc hd
  have el : us.length = xs.length := r.length.symm
  have hn : us ≠ [] := fun e => hne (List.eq_nil_of_length_eq_zero (by rw [← el, e]; rfl))
  have hi : us.toArray.isEmpty = false := by
    cases us with
    | nil => exact absurd rfl hn
    | cons _ _ => rfl
  have es : us.toArray.size = xs.length := by rw [List.size_toArray, el]
  have step : ∀ (Q2 : Around → (Result → Shared → Prop) → Shared → Prop), Meets (Builtin.«tuple.__mul__» ⟨[.ref l, .int k t], []⟩) Q2 → (∀ A R, (∀ v s', EP X pins σ Q v s' → R (.ok (.ret v)) s') → Q2 A R s) →
      wpAny (model X.prog X.w) X.A (binaryOp .Mult (.ref l) (.int k t)) (EP X pins σ Q) X.xe s := fun Q2 M z => by
    refine wpAny_binaryOp_repeat_ref (T := "tuple") (U := "int") (by decide) ⟨_, ho, rfl⟩ (fun s' => typeIs_int s' k t) noFill_tuple_mul F.fills_int_mul F.slot_int_rmul repeat_tuple F.slot_int_index.lookup
      (call_meets F.slot_int_rmul (typeIs_int s k t) F.entry_int_rmul (F.args_int_rmul_2 _ _) (int_rmul_tuple k t l us.toArray n dd sl)
        ⟨ho, rfl, ⟨_, ho, rfl⟩, call_meets F.slot_tuple_mul ⟨_, ho, rfl⟩ F.entry_tuple_mul (F.args_tuple_mul_2 _ _) M (z _ _ fun v s' h => h)⟩)
  rcases Int.lt_trichotomy k 1 with hk | hk | hk
  · refine step _ (tup_times0 l us.toArray n dd sl k t h0 (by omega) hi) fun A R c => ⟨ho, c _ _ ?_⟩
    obtain ⟨w, tw, hf, I2⟩ := laidT (tk := s.toks) I (us := []) (xs := []) .nil (Nat.zero_le _)
    exact ⟨.ref s.heap.objs.size, _, I2, rfl, q0 (by omega) _ w hf tw⟩
  · subst hk
    exact step _ (tup_times1 l us.toArray n dd sl t) fun A R c => ⟨ho, c _ _ ⟨.ref l, H, I, rfl, q1 rfl⟩⟩
  · have hm : ((us.toArray.size : Nat) : Int) * k ≤ 1000000 := by
      rw [es]
      have a1 : ((xs.length : Nat) : Int) * k ≤ 1000 * k := Int.mul_le_mul_of_nonneg_right (by omega) (by omega)
      omega
    have fl : (List.replicate k.toNat us).flatten.length ≤ sizeLine := by
      rw [PyProof.Rows.lm_len_rep_flat, el, sizeLine_eq]
      have a1 : k.toNat * xs.length ≤ 1000 * 1000 := Nat.mul_le_mul (by omega) hz
      omega
    have c0 : (decide (k < -(2 ^ 63)) || decide (k ≥ 2 ^ 63)) = false := by rw [decide_eq_false (by omega), decide_eq_false (by omega)] <;> rfl
    have c1 : (us.toArray.isEmpty || k == 1) = false := by rw [hi, Bool.false_or]; exact beq_eq_false_iff_ne.mpr (by omega)
    have c2 : (decide (k ≤ 0) || us.toArray.isEmpty) = false := by rw [hi, Bool.or_false]; exact decide_eq_false (by omega)
    have c4 : Builtin.Tuple.tupleTooMany (((us.toArray.size : Nat) : Int) * k) = false := by
      unfold Builtin.Tuple.tupleTooMany
      rw [sizeLine_eq]
      exact decide_eq_false (by omega)
    refine step _ (tuple_mulW l us.toArray n dd sl k t c0 c1 c2 (by omega) c4 (by rw [size_rep, List.size_toArray]; exact fl)) fun A R c => ⟨ho, c _ _ ?_⟩
    rw [size_rep]
    obtain ⟨w, tw, hf, I2⟩ := laidT (tk := s.toks) I (r.rep k.toNat) (by rw [PyProof.Rows.lm_len_rep_flat]; rw [PyProof.Rows.lm_len_rep_flat, el] at fl; exact fl)
    exact ⟨.ref s.heap.objs.size, _, I2, rfl, q2 (by omega) _ w hf tw⟩
/-- a tuple times an int -/
def opMulT (s : S) (x y : Val) : Option Val := match x, y with
  | .tup xs, .int k => if xs ≠ [] ∧ -(2 ^ 63) ≤ k ∧ k ≤ 1000 ∧ xs.length ≤ 1000 then some (.tup (List.replicate k.toNat xs).flatten) else none
  | _, _ => none
instance (xs : List Val) : Decidable (xs ≠ []) := by cases xs <;> simp <;> infer_instance
theorem RepAll.rep {K : PySem.W.Frag} {H : Hp} {μ : Mu} {xs : List Val} {vs : List V} (h : RepAll K H μ xs vs) : ∀ n : Nat, RepAll K H μ (List.replicate n xs).flatten (List.replicate n vs).flatten
  | 0 => .nil
  | n + 1 => by rw [List.replicate_succ, List.replicate_succ, List.flatten_cons, List.flatten_cons]; exact h.append (RepAll.rep h n)
section
variable {ι : Type} {X : ι → Cx} {K : PySem.W.Frag}
theorem os_mulT (c : CxF X K) : OpS X K (binaryOp .Mult) opMulT := by
  refine ⟨rTimes K, fun i => c.kk i ▸ op_times, fun x y H μ s a b v m ra rb e Q q => ?_⟩
  unfold opMulT at e
  split at e
  · rename_i xs k
    split at e
    · rename_i hh
      obtain ⟨hne, h0, h1, hz⟩ := hh
      cases e
      obtain ⟨l, vs, ex, hq, hl, rr⟩ := rep_tup ra
      have len := rr.length
      refine ⟨l, k, vs, ex, rep_int rb, hq.sqT, fun z => hne (List.eq_nil_of_length_eq_zero (by rw [← len, z]; rfl)), h0, h1, by omega, fun hk => ?_, fun hk p u hp tu => ?_, fun hk p u hp tu => ?_⟩
      · subst hk
        have e1 : (List.replicate (1 : Int).toNat xs).flatten = xs := by simp
        rw [e1] at q
        exact q _ H μ (.refl m) m (ex ▸ ra)
      · have e0 : (List.replicate k.toNat xs).flatten = [] := by
          rw [show k.toNat = 0 by omega]; rfl
        rw [e0] at q
        refine q _ _ μ (m.new hp) (m.upd_new hp) ?_
        unfold Rep
        exact ⟨p, [], rfl, .of upd_same tu, Nat.zero_le _, .nil⟩
      · refine q _ _ μ (m.new hp) (m.upd_new hp) ?_
        unfold Rep
        refine ⟨p, _, rfl, .of upd_same tu, ?_, RepAll.mono (m.new hp) m _ _ (RepAll.rep rr k.toNat)⟩
        rw [PyProof.Rows.lm_len_rep_flat, sizeLine_eq]
        have a1 : k.toNat * vs.length ≤ 1000 * 1000 := Nat.mul_le_mul (by omega) (by omega)
        omega
    · cases e
  · cases e
end
/-! ### max of a tuple -/
theorem max_rawT {P : Program} {w : World} {A : Around} {E : Value → Shared → Prop} {s : Shared} {l : Addr} {its : List Value} {ns : List Int} {Q : Value → Shared → Prop} (hh : A.handled = none) (hl : s.heap.IsTuple l its.toArray) (hi : IntsAre its ns) (hne : 0 < ns.length)
    (h : ∀ h' tk M t', (∀ b o, s.heap.get? b = some o → h'.get? b = some o) → M ∈ ns → (∀ a, a ∈ ns → a ≤ M) → Q (.int M t') { s with heap := h', toks := tk }) : wpAny (model P w) A (call (.builtin "max") [.ref l]) Q E s := by
  obtain ⟨xs, e⟩ := hi.allInts.items
  have hn : numsOf (intItems xs).toList = ns := by rw [← e]; exact hi.numsOf
  rw [nums_intItems] at hn
  subst hn
  rw [e] at hl
  have hsz : 0 < xs.size := by simpa using hne
  have lt : l < s.heap.objs.size := by obtain ⟨_, e, _⟩ := hl; exact Heap.lt_size e
  refine call_max_walk (wpAny_pyIter_tuple hl ?_)
  refine ⟨_, _, _, _, _, _, _, rfl, PySem.Walks.tuple (A := A.in1) hh _ l (Nat.ne_of_lt lt) (intItems xs), ⟨⟨_, Heap.get?_push_size _ rfl, rfl, rfl⟩, hl.push _⟩, fun b hb => ?_, by simpa [intItems] using hsz, CmpOf.ints_gt (numAt xs) (fun _ _ => intItems_at), fun v h' tk hP hk => ?_⟩
  · show b < (s.heap.push _).objs.size
    rw [Heap.size_push]
    rcases List.mem_cons.mp hb with z | hb
    · rw [z]; exact Nat.lt_succ_self _
    · rw [List.mem_singleton.mp hb]; exact Nat.lt_succ_of_lt lt
  · have hP : (intItems xs)[argBest (fun i j => decide (numAt xs i > numAt xs j)) (xs.size - 1)]? = some v := by simpa [intItems] using hP
    obtain ⟨t, rfl⟩ := intItems_at hP
    obtain ⟨g1, g2⟩ := argBest_gt (numAt xs) (xs.size - 1)
    refine h h' tk _ t (fun b o e => hk b o (fun z => ?_) (Heap.get?_push_of_some _ e)) ?_ fun a ha => ?_
    · rw [List.mem_singleton.mp z] at e
      exact absurd (Heap.lt_size e) (Nat.lt_irrefl _)
    · rw [numAt_eq]; exact PySem.getD_mem (by rw [List.length_map, Array.length_toList]; omega)
    · obtain ⟨j, hj, rfl⟩ := mem_getD ha
      rw [List.length_map, Array.length_toList] at hj
      rw [← numAt_eq]; exact g2 j (by omega)
def rMaxT (K : PySem.W.Frag) : List V → Hp → VK → Prop := fun vs H Q => ∃ (a : Addr) (ns : List Int), vs = [V.ref a] ∧ SqT K H a (ns.map V.int) ∧ 0 < ns.length ∧ ∀ m, m ∈ ns → (∀ y, y ∈ ns → y ≤ m) → Q (.int m) H
theorem cr_maxT {X : Cx} (hc : X.calm = true) : CallR X (.builtin "max") (rMaxT X.K) := by
  intro pins s σ H vs us Q I r h
  obtain ⟨a, ns, rfl, hs, hne, q⟩ := h
  obtain ⟨its, rv, p, _⟩ := I.tuple hs
  rw [Vals.ref1 r]
  exact max_rawT (I.ok.hd hc) p rv.ints hne fun h' tk m t' hk h1 h2 => ⟨.int _, H, I.kept hk, ⟨_, rfl⟩, q m h1 h2⟩
def bMaxT (s : S) : List Val → Option Val
  | [.tup xs] => ((intsOf xs).bind maxI).map .int
  | _ => none
theorem cs_maxT {ι : Type} {X : ι → Cx} {K : PySem.W.Frag} (c : CxF X K) : CallS X K (.builtin "max") bMaxT := by
  refine ⟨rMaxT K, fun i => c.kk i ▸ cr_maxT (c.calm i), fun xs H μ s as v m r e Q q => ?_⟩
  unfold bMaxT at e
  split at e
  · rename_i ys
    obtain ⟨y, ey, ry⟩ := all1 r
    cases en : intsOf ys with
    | none => rw [en] at e; cases e
    | some ns =>
      rw [en] at e
      cases ns with
      | nil => cases e
      | cons n ns =>
        cases e
        obtain ⟨q1, vs, eq, hq, hl, hr⟩ := rep_tup ry
        obtain ⟨ev, _⟩ := intsOf_rep hr en
        refine ⟨q1, n :: ns, by rw [ey, eq], by rw [← ev]; exact hq.sqT, by simp, fun k hk hle => ?_⟩
        obtain ⟨h1, h2, h3⟩ := foldl_max ns n
        have ek : k = ns.foldl max n := by
          apply Int.le_antisymm
          · rcases List.mem_cons.mp hk with z | z
            · rw [z]; exact h1
            · exact h2 k z
          · refine hle _ ?_
            rcases h3 with z | z
            · rw [z]; exact List.mem_cons_self
            · exact List.mem_cons_of_mem _ z
        rw [ek]
        exact q _ H μ (.refl m) m rep_of_int
  · cases e
/-- a, b, c = x, y, z -/
def sPar3 (i j l : Nat) (a b c : Ex) : Sx := fun ρ s => (a ρ s).seq fun x s1 => (b ρ s1).seq fun y s2 => (c ρ s2).seq fun z s3 => .nx (((ρ.set i (some x)).set j (some y)).set l (some z)) s3
section
variable {ι : Type} {X : ι → Cx} {K : PySem.W.Frag} {EW : XK} {a b c : Expr} {ma mb mc : Ex} {pos : Pos}
theorem ms_par3 {k l n : Nat} {x y z : PySem.Str} {px py pz pt : Pos} {kt k2 : Nat} {pt2 : Pos} (hc : ∀ i, (X i).calm = true) (hN : ∀ i, (X i).N.Nodup) (hi : ∀ i, (X i).N[k]? = some x) (hj : ∀ i, (X i).N[l]? = some y) (hk : ∀ i, (X i).N[n]? = some z) (hij : k ≠ l) (hin : k ≠ n) (hjn : l ≠ n)
    (hx : ∀ i, (X i).env.scope.names.lookup x = some .local) (hy : ∀ i, (X i).env.scope.names.lookup y = some .local) (hz : ∀ i, (X i).env.scope.names.lookup z = some .local) (ha : ME X K EW a ma) (hb : ME X K EW b mb) (hcc : ME X K EW c mc)
    (hw : ∀ i, swappedStores [.Tuple [.Name x px, .Name y py, .Name z pz] kt pt] (.Tuple [a, b, c] k2 pt2) (X i).env = Pure.pure (some [x, y, z]))
    (hst : ∀ i, starEach [a, b, c] (X i).env = (false, eval a (X i).env) :: starEach [b, c] (X i).env := by intro _; rfl) (hst2 : ∀ i, starEach [b, c] (X i).env = (false, eval b (X i).env) :: starEach [c] (X i).env := by intro _; rfl) (hst3 : ∀ i, starEach [c] (X i).env = (false, eval c (X i).env) :: starEach [] (X i).env := by intro _; rfl)
    (hs : ∀ i, swapsWithSole [.Tuple [.Name x px, .Name y py, .Name z pz] kt pt] (.Tuple [a, b, c] k2 pt2) pos.line (X i).env = Pure.pure false := by intro _; rfl) :
    MS X K EW (.Assign [.Tuple [.Name x px, .Name y py, .Name z pz] kt pt] (.Tuple [a, b, c] k2 pt2) pos) (sPar3 k l n ma mb mc) := by
  obtain ⟨ta, pa, sa⟩ := ha.ex
  obtain ⟨tb, pb, sb⟩ := hb.ex
  obtain ⟨tc, pc, sc⟩ := hcc.ex
  refine ⟨⟨_, fun i => ps_par3 (hc i) (hN i) (hi i) (hj i) (hk i) hij hin hjn (hx i) (hy i) (hz i) (pa_cons (pa i) (pa_cons (pb i) (pa_cons (pc i) pa_nil (hst3 i)) (hst2 i)) (hst i)) (hw i) (hs i), fun σ H ρ μ s D hr m h => ?_⟩⟩
  refine sa σ H ρ μ s _ hr m (wp_mono (wp_seq h) (fun v s1 h1 => ?_) fun _ _ q => q)
  intro x H1 μ1 g1 m1 r1
  refine sb σ H1 ρ μ1 s1 _ (hr.mono g1 m) m1 (wp_mono (wp_seq h1) (fun u s2 h2 => ?_) fun _ _ q => q.mono g1)
  intro y H2 μ2 g2 m2 r2
  have g12 := g1.trans g2
  refine sc σ H2 ρ μ2 s2 _ (hr.mono g12 m) m2 (wp_mono (wp_seq h2) (fun t s3 h3 => ?_) fun _ _ q => q.mono g12)
  intro z H3 μ3 g3 m3 r3
  have g13 := g12.trans g3
  exact ⟨x, y, z, rfl, h3 _ H3 μ3 g13 m3 ((((hr.mono g13 m).set k (Rep.mono (g2.trans g3) m1 v x r1)).set l (Rep.mono g3 m2 u y r2)).set n r3)⟩
end
end FM

set_option autoImplicit false
/-! a conditional as a test -/
namespace FM
open PySem PySem.Spec PyProof.Rows L2
variable [Tbl]
def tIfT (c a b : Tx) : Tx := fun ρ s => (c ρ s).bind fun t s1 => if t = true then a ρ s1 else b ρ s1
def tCond (t ta tb : TT) : TT := fun σ H Q => t σ H fun c H1 => if c = true then ta σ H1 Q else tb σ H1 Q
theorem pt_cond {X : Cx} {c a b : Expr} {pos : Pos} {tc ta tb : TT} (hc : PT X c tc) (ha : PT X a ta) (hb : PT X b tb) : PT X (.IfExp c a b pos) (tCond tc ta tb) := by
  constructor
  intro pins s σ H Q I h
  refine isTrue_IfExp (thn (hc.run pins s σ H _ I h) ?_)
  rintro d s1 ⟨H1, I1, q1⟩
  cases d with
  | true => exact ha.run pins s1 σ H1 Q I1 q1
  | false => exact hb.run pins s1 σ H1 Q I1 q1
section
variable {ι : Type} {X : ι → Cx} {K : PySem.W.Frag} {EW : XK} {a b c : Expr} {mc mt mu : Tx} {pos : Pos}
theorem mt_if (hc : MT X K EW c mc) (ha : MT X K EW a mt) (hb : MT X K EW b mu) : MT X K EW (.IfExp c a b pos) (tIfT mc mt mu) := by
  obtain ⟨tc, pc, sc⟩ := hc.ex
  obtain ⟨ta, pa, sa⟩ := ha.ex
  obtain ⟨tb, pb, sb⟩ := hb.ex
  refine ⟨⟨_, fun i => pt_cond (pc i) (pa i) (pb i), fun σ H ρ μ s Q hr m h => ?_⟩⟩
  refine sc σ H ρ μ s _ hr m (wp_mono (wp_bind h) (fun v s1 h1 => ?_) fun _ _ q => q)
  intro H1 μ1 g1 m1
  cases v with
  | true =>
    rw [if_pos rfl] at h1 ⊢
    exact sa σ H1 ρ μ1 s1 _ (hr.mono g1 m) m1 (wp_mono h1 (fun _ _ q => q.mono g1) fun _ _ q => q.mono g1)
  | false =>
    rw [if_neg Bool.false_ne_true] at h1 ⊢
    exact sb σ H1 ρ μ1 s1 _ (hr.mono g1 m) m1 (wp_mono h1 (fun _ _ q => q.mono g1) fun _ _ q => q.mono g1)
end
end FM

set_option autoImplicit false
/-! mirrors run -/
namespace FM
open PySem PySem.Spec PyProof.Rows L2
local instance : Tbl := ⟨[]⟩
section
variable (ρ : FM.Env) (s : S)
@[simp] theorem run_var (i : Nat) : eVar i ρ s = (match ρ[i]? with | some (some v) => .ok v s | _ => .no) := id rfl
@[simp] theorem run_c (v : Val) : eC v ρ s = .ok v s := id rfl
@[simp] theorem run_op (f : S → Val → Val → Option Val) (a b : Ex) : eOp f a b ρ s = (a ρ s).bind fun x s1 => (b ρ s1).bind fun y s2 => ofO (f s2 x y) s2 := id rfl
@[simp] theorem run_op1 (f : S → Val → Option Val) (a : Ex) : eOp1 f a ρ s = (a ρ s).bind fun x s1 => ofO (f s1 x) s1 := id rfl
@[simp] theorem run_anil : aNil ρ s = .ok [] s := id rfl
@[simp] theorem run_acons (a : Ex) (r : Ax) : aCons a r ρ s = (a ρ s).bind fun x s1 => (r ρ s1).bind fun xs s2 => .ok (x :: xs) s2 := id rfl
@[simp] theorem run_tup (a : Ax) : eTup a ρ s = (a ρ s).bind fun xs s1 => .ok (.tup xs) s1 := id rfl
@[simp] theorem run_eif (c : Tx) (a b : Ex) : eIf c a b ρ s = (c ρ s).bind fun t s1 => if t = true then a ρ s1 else b ρ s1 := id rfl
@[simp] theorem run_and (a b : Ex) : eAnd a b ρ s = (a ρ s).bind fun x s1 => match x with
  | .bl true => b ρ s1
  | .bl false => .ok (.bl false) s1
  | _ => .no := id rfl
@[simp] theorem run_or (a b : Ex) : eOr a b ρ s = (a ρ s).bind fun x s1 => match x with
  | .bl true => .ok (.bl true) s1
  | .bl false => b ρ s1
  | _ => .no := id rfl
@[simp] theorem run_not (a : Ex) : eNot a ρ s = (a ρ s).bind fun x s1 => match x with
  | .bl b => .ok (.bl (!b)) s1
  | _ => .no := id rfl
@[simp] theorem run_chain (f g : S → Val → Val → Option Val) (a b c : Ex) : eChain f g a b c ρ s = (a ρ s).bind fun x s1 => (b ρ s1).bind fun y s2 => (ofO (f s2 x y) s2).bind fun t s3 => match t with
  | .bl true => (c ρ s3).bind fun z s4 => ofO (g s4 y z) s4
  | .bl false => .ok (.bl false) s3
  | _ => .no := id rfl
@[simp] theorem run_call (f : S → List Val → Option Val) (a : Ax) : eCall f a ρ s = (a ρ s).bind fun xs s1 => ofO (f s1 xs) s1 := id rfl
@[simp] theorem run_onone : oNone ρ s = .ok none s := id rfl
@[simp] theorem run_osome (a : Ex) : oSome a ρ s = (a ρ s).bind fun x s1 => match x with
  | .int i => .ok (some i) s1
  | _ => .no := id rfl
@[simp] theorem run_slT (a : Ex) (lo hi : Ox) : eSlT a lo hi ρ s = (a ρ s).bind fun x s1 => (lo ρ s1).bind fun l s2 => (hi ρ s2).bind fun h s3 => match x with
  | .tup xs => .ok (.tup (cutL xs l h)) s3
  | _ => .no := id rfl
@[simp] theorem run_sl (a : Ex) (lo hi : Ox) : fSl a lo hi ρ s = (a ρ s).bind fun x s1 => (lo ρ s1).bind fun l s2 => (hi ρ s2).bind fun h s3 => match asL s3 x with
  | some xs => .ok (cutL xs l h) s3
  | none => .no := id rfl
@[simp] theorem run_tval (a : Ex) : tVal a ρ s = (a ρ s).bind fun x s1 => match x with
  | .bl b => .ok b s1
  | _ => .no := id rfl
@[simp] theorem run_tand (a b : Tx) : tAnd a b ρ s = (a ρ s).bind fun x s1 => if x = true then b ρ s1 else .ok false s1 := id rfl
@[simp] theorem run_tor (a b : Tx) : tOr a b ρ s = (a ρ s).bind fun x s1 => if x = true then .ok true s1 else b ρ s1 := id rfl
@[simp] theorem run_tnot (a : Tx) : tNot a ρ s = (a ρ s).bind fun x s1 => .ok (!x) s1 := id rfl
@[simp] theorem run_tyes : tYes ρ s = .ok true s := id rfl
@[simp] theorem run_gname (i : Nat) (v : Val) : FM.gName i v ρ = some (ρ.set i (some v)) := id rfl
@[simp] theorem run_gtup (gs : List Gx) (xs : List Val) : FM.gTup gs (.tup xs) ρ = gAll gs xs ρ := id rfl
@[simp] theorem run_gnil : gAll [] [] ρ = some ρ := id rfl
@[simp] theorem run_gcons (g : Gx) (gs : List Gx) (v : Val) (vs : List Val) : gAll (g :: gs) (v :: vs) ρ = match g v ρ with
  | some ρ1 => gAll gs vs ρ1
  | none => none := id rfl
@[simp] theorem run_iseq (a : Ex) : iSeq a ρ s = (a ρ s).bind fun x s1 => match asQ s1 x with
  | some xs => .ok (xs, still x xs) s1
  | none => .no := id rfl
@[simp] theorem run_irange1 (a : Ex) : iRange1 a ρ s = (a ρ s).bind fun x s1 => match x with
  | .int n => if -(2 ^ 60) < n ∧ n ≤ sizeLine then .ok (rangeV 0 n.toNat, fun (_ : S) => true) s1 else .no
  | _ => .no := id rfl
@[simp] theorem run_comp (it : Ix) (own : List Nat) (g : Gx) (t : Tx) (e : Ex) : fComp it own g t e ρ s = (it ρ s).bind fun p s1 => (compL p.2 g t e (FM.wipe ρ own) p.1 [] s1).nox := id rfl
@[simp] theorem run_lst (a : Ax) : fLst a ρ s = a ρ s := id rfl
@[simp] theorem run_range (a : Ex) : fRange a ρ s = (a ρ s).bind fun x s1 => match x with
  | .int n => if -(2 ^ 60) < n ∧ n ≤ sizeLine then .ok (rangeV 0 n.toNat) s1 else .no
  | _ => .no := id rfl
@[simp] theorem run_list (a : Ex) : fList a ρ s = (a ρ s).bind fun x s1 => match asQ s1 x with
  | some xs => .ok xs s1
  | none => .no := id rfl
@[simp] theorem run_add (a b : Ex) : fAdd a b ρ s = (a ρ s).bind fun x s1 => (b ρ s1).bind fun y s2 => match asLn s2 x, asLn s2 y with
  | some xs, some ys => if xs.length + ys.length ≤ sizeLine then .ok (xs ++ ys) s2 else .no
  | _, _ => .no := id rfl
@[simp] theorem run_mul (a b : Ex) : fMul a b ρ s = (a ρ s).bind fun x s1 => (b ρ s1).bind fun y s2 => match asLn s2 x, y with
  | some xs, .int j => if -(2 ^ 63) ≤ j ∧ j < 2 ^ 63 ∧ xs.length * j.toNat ≤ sizeLine then .ok (List.replicate j.toNat xs).flatten s2 else .no
  | _, _ => .no := id rfl
@[simp] theorem run_sorted (a : Ex) : fSortedI a ρ s = (a ρ s).bind fun x s1 => match (asL s1 x).bind intsOf with
  | some ns => .ok ((sortI ns).map .int) s1
  | none => .no := id rfl
@[simp] theorem run_sortset (a : Ex) : fSortSetT a ρ s = (a ρ s).bind fun x s1 => match (asT x).bind intsOf with
  | some ns => if ns.length < 64 then .ok ((sortD ns).map .int) s1 else .no
  | none => .no := id rfl
@[simp] theorem run_dead (f : Fx) : eDead f ρ s = (f ρ s).bind fun xs s1 => .ok (.lst xs) s1 := id rfl
@[simp] theorem run_live (f : Fx) : eLive f ρ s = (f ρ s).bind fun xs s1 => pushC (.lst xs) s1 := id rfl
@[simp] theorem run_push (c : Cell) (fr : List Cell) (r : S) : pushC c (fr :: r) = .ok (.ref r.length fr.length) ((fr ++ [c]) :: r) := id rfl
@[simp] theorem run_tupF (f : Fx) : eTupleF f ρ s = (f ρ s).bind fun xs s1 => .ok (.tup xs) s1 := id rfl
@[simp] theorem run_meth (f : S → Val → List Val → Option Val) (o : Ex) (a : Ax) : eMeth f o a ρ s = (o ρ s).bind fun x s1 => if (asL s1 x).isSome = true then (a ρ s1).bind fun xs s2 => ofO (f s2 x xs) s2 else .no := id rfl
@[simp] theorem run_methT (f : S → Val → List Val → Option Val) (o : Ex) (a : Ax) : eMethT f o a ρ s = (o ρ s).bind fun x s1 => if (asT x).isSome = true then (a ρ s1).bind fun xs s2 => ofO (f s2 x xs) s2 else .no := id rfl
@[simp] theorem run_alt (m n : Ex) : eAlt m n ρ s = match m ρ s with
  | .no => n ρ s
  | r => r := id rfl
@[simp] theorem run_chg (f : S → List Val → List Val → Option (List Val)) (o : Ex) (a : Ax) : eChg f o a ρ s = (o ρ s).bind fun x s1 => if isL s1 x = true then (a ρ s1).bind fun xs s2 => chg s2 x (f s2 xs) xs else .no := id rfl
@[simp] theorem run_extend (o : Ex) (f : Fx) : eExtend o f ρ s = (o ρ s).bind fun x s1 => if isL s1 x = true then (f ρ s1).bind fun ys s2 => chg s2 x (fun xs => if xs.length + ys.length ≤ sizeLine then some (xs ++ ys) else none) ys else .no := id rfl
@[simp] theorem run_nil : sNil ρ s = .nx ρ s := id rfl
@[simp] theorem run_cons (a r : Sx) : sCons a r ρ s = (a ρ s).then r := id rfl
@[simp] theorem run_asg (e : Ex) (g : Gx) : sAsg e g ρ s = (e ρ s).seq fun v s1 => match g v ρ with
  | some ρ1 => .nx ρ1 s1
  | none => .no := id rfl
@[simp] theorem run_par (i j : Nat) (a b : Ex) : sPar i j a b ρ s = (a ρ s).seq fun x s1 => (b ρ s1).seq fun y s2 => .nx ((ρ.set i (some x)).set j (some y)) s2 := id rfl
@[simp] theorem run_expr (e : Ex) : sExpr e ρ s = (e ρ s).seq fun _ s1 => .nx ρ s1 := id rfl
@[simp] theorem run_ret (e : Ex) : sRet e ρ s = (e ρ s).seq fun v s1 => .rt v s1 := id rfl
@[simp] theorem run_if (c : Tx) (a b : Sx) : sIf c a b ρ s = (c ρ s).seq fun t s1 => if t = true then a ρ s1 else b ρ s1 := id rfl
@[simp] theorem run_sub (o i e : Ex) : sSub o i e ρ s = (e ρ s).seq fun v s1 => (o ρ s1).seq fun x s2 => (i ρ s2).seq fun y s3 => match setL s3 x y v with
  | some s4 => .nx ρ s4
  | none => .no := id rfl
@[simp] theorem run_augsub (f : S → Val → Val → Option Val) (o i e : Ex) : sAugSub f o i e ρ s = (o ρ s).seq fun x s1 => (i ρ s1).seq fun y s2 => (ofO (opIxN s2 x y) s2).seq fun old s3 => (e ρ s3).seq fun v s4 => (ofO (f s4 old v) s4).seq fun w s5 =>
  match setL s5 x y w with
  | some s6 => .nx ρ s6
  | none => .no := id rfl
@[simp] theorem run_aug (i : Nat) (f : S → Val → Val → Option Val) (e : Ex) : sAug i f e ρ s = match ρ[i]? with
  | some (some x) => (e ρ s).seq fun y s1 => (ofO (f s1 x y) s1).seq fun z s2 => .nx (ρ.set i (some z)) s2
  | _ => .no := id rfl
@[simp] theorem run_pass : sPass ρ s = .nx ρ s := id rfl
@[simp] theorem run_brk : sBrk ρ s = .bk ρ s := id rfl
@[simp] theorem run_cnt : sCnt ρ s = .ct ρ s := id rfl
@[simp] theorem run_for (it : Ix) (g : Gx) (b : Sx) : sFor it g b ρ s = (it ρ s).seq fun p s1 => forL p.2 g b p.1 ρ s1 := id rfl
@[simp] theorem run_while (n : Nat) (c : Tx) (b : Sx) : sWhile n c b ρ s = whileL c b n ρ s := id rfl
@[simp] theorem run_fn (f : Fn) (a : Ax) : eFn f a ρ s = (a ρ s).bind fun xs s1 => (f xs s1).bind fun r s2 => match r with
  | .val v => .ok v s2
  | .cell (.lst ys) => .ok (.lst ys) s2
  | .cell (.dct _ _) => .no := id rfl
@[simp] theorem run_fnL (f : Fn) (a : Ax) : eFnL f a ρ s = (a ρ s).bind fun xs s1 => (f xs s1).bind fun r s2 => match r with
  | .val v => .ok v s2
  | .cell (.lst ys) => pushC (.lst ys) s2
  | .cell (.dct _ _) => .no := id rfl
end
/-! ### values -/
def vi (ns : List Int) : List Val := ns.map .int
@[simp] theorem vi_len (ns : List Int) : (vi ns).length = ns.length := by simp [vi]
@[simp] theorem vi_nil : vi [] = [] := rfl
@[simp] theorem vi_cons (n : Int) (ns : List Int) : vi (n :: ns) = .int n :: vi ns := rfl
@[simp] theorem vi_append (a b : List Int) : vi (a ++ b) = vi a ++ vi b := by simp [vi]
@[simp] theorem intsOf_vi : ∀ ns : List Int, intsOf (vi ns) = some ns
  | [] => rfl
  | n :: ns => by simp [intsOf, intsOf_vi ns]
theorem vi_get (ns : List Int) (i : Nat) : (vi ns)[i]? = (ns[i]?).map .int := by simp [vi]
@[simp] theorem pureAll_vi : ∀ ns : List Int, pureAll (vi ns) = true
  | [] => rfl
  | n :: ns => by simp [pureAll, pure, pureAll_vi ns]
mutual
theorem below_of_pure (k : Nat) : ∀ v : Val, pure v = true → below k v = true
  | .non, _ => rfl
  | .bl _, _ => rfl
  | .int _, _ => rfl
  | .str _, _ => rfl
  | .tup xs, h => by unfold pure at h; unfold below; exact belowAll_of_pure k xs h
  | .lst xs, h => by unfold pure at h; unfold below; exact belowAll_of_pure k xs h
  | .scr xs, h => by unfold pure at h; unfold below; exact belowAll_of_pure k xs h
  | .dct _ _, h => by unfold pure at h; cases h
  | .ref _ _, h => by unfold pure at h; cases h
theorem belowAll_of_pure (k : Nat) : ∀ v : List Val, pureAll v = true → belowAll k v = true
  | [], _ => rfl
  | x :: xs, h => by
    unfold pureAll at h; unfold belowAll
    simp only [Bool.and_eq_true] at h
    rw [below_of_pure k x h.1, belowAll_of_pure k xs h.2]; rfl
end
theorem frz_below {d : Nat} {fr : List Cell} {k : Nat} {v : Val} (h : below d v = true) : frz d fr k v = some v := by
  cases k <;> unfold frz <;> rw [if_pos h]
theorem retOf_pure {d : Nat} {fr : List Cell} {v : Val} (h : pure v = true) : retOf d fr v = some (.val v) := by
  have e := frz_below (fr := fr) (k := 8) (below_of_pure d v h)
  unfold retOf
  split
  · unfold pure at h; exact absurd h Bool.false_ne_true
  · rw [e]; rfl
theorem retOf_cell {d n : Nat} {fr : List Cell} {xs : List Val} (e : fr[n]? = some (.lst xs)) (h : pureAll xs = true) : retOf d fr (.ref d n) = some (.cell (.lst xs)) := by
  unfold retOf
  simp [e, belowAll_of_pure d xs h]
@[simp] theorem finish_cons (v : Val) (fr : List Cell) (r : S) : finish v (fr :: r) = ofO (retOf r.length fr v) r := rfl
@[simp] theorem retOf_int (d : Nat) (fr : List Cell) (i : Int) : retOf d fr (.int i) = some (.val (.int i)) := retOf_pure rfl
@[simp] theorem retOf_bl (d : Nat) (fr : List Cell) (i : Bool) : retOf d fr (.bl i) = some (.val (.bl i)) := retOf_pure rfl
@[simp] theorem res_pure {s : S} {k : Nat} {v : Val} (h : pure v = true) : res s k v = some v := by
  cases k <;> unfold res <;> rw [if_pos h]
theorem mapM_res_pure {s : S} {k : Nat} : ∀ {xs : List Val}, pureAll xs = true → xs.mapM (res s k) = some xs
  | [], _ => rfl
  | x :: xs, h => by
    unfold pureAll at h
    simp only [Bool.and_eq_true] at h
    simp [List.mapM_cons, res_pure h.1, mapM_res_pure h.2]
@[simp] theorem opEq_int (s : S) (i j : Int) : opEq s (.int i) (.int j) = some (.bl (decide (i = j))) := by
  simp [opEq, res, pure, shallow, toD, PyData.depth, veq, PyData.eqv]
  rfl
@[simp] theorem opNe_int (s : S) (i j : Int) : opNe s (.int i) (.int j) = some (.bl (decide (i ≠ j))) := by
  simp [opNe, res, pure, shallow, toD, PyData.depth, veq, PyData.eqv, bne]
  rfl
@[simp] theorem opLt_int (s : S) (i j : Int) : opLt s (.int i) (.int j) = some (.bl (decide (i < j))) := rfl
@[simp] theorem opLe_int (s : S) (i j : Int) : opLe s (.int i) (.int j) = some (.bl (decide (i ≤ j))) := rfl
@[simp] theorem opGt_int (s : S) (i j : Int) : opGt s (.int i) (.int j) = some (.bl (decide (j < i))) := rfl
@[simp] theorem opGe_int (s : S) (i j : Int) : opGe s (.int i) (.int j) = some (.bl (decide (j ≤ i))) := rfl
@[simp] theorem opAdd_int (s : S) (i j : Int) : opAdd s (.int i) (.int j) = some (.int (i + j)) := rfl
@[simp] theorem opSub_int (s : S) (i j : Int) : opSub s (.int i) (.int j) = some (.int (i - j)) := rfl
theorem opMod_int {s : S} {i j : Int} (h : 0 < j) : opMod s (.int i) (.int j) = some (.int (i % j)) := by simp [opMod, h]
theorem opDiv_int {s : S} {i j : Int} (h : 0 < j) (h2 : j < 2 ^ 30) : opDiv s (.int i) (.int j) = some (.int (i / j)) := by unfold opDiv; simp only; rw [if_pos ⟨h, h2⟩]
theorem opMul_r {s : S} {i j : Int} (h : j.natAbs < 2 ^ 64) : opMul s (.int i) (.int j) = some (.int (i * j)) := by unfold opMul; simp only; rw [if_pos (.inr h)]
theorem opMul_l {s : S} {i j : Int} (h : i.natAbs < 2 ^ 64) : opMul s (.int i) (.int j) = some (.int (i * j)) := by unfold opMul; simp only; rw [if_pos (.inl h)]
/-! ### the store -/
theorem lk_push {fr : List Cell} {s : S} {f n : Nat} (h : f < s.length) : lk (fr :: s) f n = lk s f n := by
  show (if f = s.length then fr[n]? else lk s f n) = _
  rw [if_neg (Nat.ne_of_lt h)]
theorem lk_top {fr : List Cell} {s : S} {n : Nat} : lk (fr :: s) s.length n = fr[n]? := by
  show (if s.length = s.length then fr[n]? else lk s s.length n) = _
  rw [if_pos rfl]
theorem up_push {fr : List Cell} {s : S} {f n : Nat} {c : Cell} (h : f < s.length) : up (fr :: s) f n c = fr :: up s f n c := by
  show (if f = s.length then fr.set n c :: s else fr :: up s f n c) = _
  rw [if_neg (Nat.ne_of_lt h)]
theorem up_top {fr : List Cell} {s : S} {n : Nat} {c : Cell} : up (fr :: s) s.length n c = fr.set n c :: s := by
  show (if s.length = s.length then fr.set n c :: s else _) = _
  rw [if_pos rfl]
theorem lk_up_same {s : S} {f n : Nat} {c c' : Cell} (h : lk s f n = some c') : lk (up s f n c) f n = some c := by
  rw [lk_up h, if_pos ⟨rfl, rfl⟩]
theorem up_up : ∀ (s : S) (f n : Nat) (c c' : Cell), up (up s f n c) f n c' = up s f n c'
  | [], _, _, _, _ => rfl
  | fr :: r, f, n, c, c' => by
    by_cases h : f = r.length
    · subst h; rw [up_top, up_top, up_top]; simp
    · have e : ∀ (fr : List Cell) (r : S) c, f ≠ r.length → up (fr :: r) f n c = fr :: up r f n c := fun fr r c h => by
        show (if f = r.length then fr.set n c :: r else fr :: up r f n c) = _
        rw [if_neg h]
      rw [e fr r c h, e _ _ c' (by rw [up_length]; exact h), up_up r f n c c', e fr r c' h]
theorem up_self : ∀ (s : S) (f n : Nat) (c : Cell), lk s f n = some c → up s f n c = s
  | [], _, _, _, h => by cases h
  | fr :: r, f, n, c, h => by
    by_cases e : f = r.length
    · subst e
      rw [lk_top] at h
      rw [up_top]
      obtain ⟨hn, hc⟩ := List.getElem?_eq_some_iff.mp h
      rw [← hc, List.set_getElem_self]
    · have h : (if f = r.length then fr[n]? else lk r f n) = some c := h
      rw [if_neg e] at h
      show (if f = r.length then fr.set n c :: r else fr :: up r f n c) = _
      rw [if_neg e, up_self r f n c h]
@[simp] theorem bInt_int (s : S) (i : Int) : bInt s [.int i] = some (.int i) := rfl
@[simp] theorem bAbs_int (s : S) (i : Int) : bAbs s [.int i] = some (.int (if i < 0 then -i else i)) := rfl
end FM

set_option autoImplicit false
/-! loops run -/
namespace FM
open PySem PySem.Spec PyProof.Rows L2
local instance : Tbl := ⟨[]⟩
mutual
theorem beqV_refl : ∀ v : Val, beqV v v = true
  | .non => rfl
  | .bl b => by simp [beqV]
  | .int i => by simp [beqV]
  | .str x => by simp [beqV]
  | .tup xs => by unfold beqV; exact beqVs_refl xs
  | .lst xs => by unfold beqV; exact beqVs_refl xs
  | .scr xs => by unfold beqV; exact beqVs_refl xs
  | .dct a b => by unfold beqV; rw [beqVs_refl a, beqVs_refl b]; rfl
  | .ref f n => by simp [beqV]
theorem beqVs_refl : ∀ v : List Val, beqVs v v = true
  | [] => rfl
  | x :: xs => by unfold beqVs; rw [beqV_refl x, beqVs_refl xs]; rfl
end
theorem still_of {s : S} {v : Val} {xs : List Val} (h : asQ s v = some xs) : still v xs s = true := by
  cases v <;> try rfl
  rename_i f n
  simp only [asQ, asL] at h
  simp only [still]
  split at h
  · rename_i ys e
    cases h
    exact beqVs_refl _
  · cases h
theorem asL_push {fr : List Cell} {s : S} {v : Val} {xs : List Val} (h : asL s v = some xs) : asL (fr :: s) v = some xs := by
  cases v <;> simp only [asL] at h ⊢ <;> try exact h
  rename_i f n
  split at h
  · rename_i ys e
    cases h
    rw [lk_push (lk_lt e), e]
  · cases h
theorem asQ_push {fr : List Cell} {s : S} {v : Val} {xs : List Val} (h : asQ s v = some xs) : asQ (fr :: s) v = some xs := by
  cases v <;> simp only [asQ] at h ⊢ <;> first | exact h | exact asL_push h
/-- a comprehension whose parts change nothing -/
theorem compL_map {α : Type} {keep : S → Bool} {g : Gx} {t : Tx} {e : Ex} {ρ : FM.Env} {s : S} (f : α → Val) (p : α → Bool) (h : α → Val) (hk : keep s = true) :
    ∀ (l : List α) (acc : List Val), (∀ x ∈ l, ∃ ρ1, g (f x) ρ = some ρ1 ∧ t ρ1 s = .ok (p x) s ∧ (p x = true → e ρ1 s = .ok (h x) s)) →
      compL keep g t e ρ (l.map f) acc s = .ok (acc ++ (l.filter p).map h) s
  | [], acc, _ => by simp [compL, hk]
  | x :: l, acc, H => by
    obtain ⟨ρ1, h1, h2, h3⟩ := H x List.mem_cons_self
    have ih := fun acc => compL_map f p h hk l acc fun y hy => H y (List.mem_cons_of_mem _ hy)
    simp only [List.map_cons, compL, hk, if_true, h1, h2, bind_ok]
    cases e1 : p x with
    | true => simp [h3 e1, ih, e1]
    | false => simp [ih, e1]
/-- .. without a test -/
theorem compL_all {α : Type} {keep : S → Bool} {g : Gx} {e : Ex} {ρ : FM.Env} {s : S} (f : α → Val) (h : α → Val) (hk : keep s = true) (l : List α)
    (H : ∀ x ∈ l, ∃ ρ1, g (f x) ρ = some ρ1 ∧ e ρ1 s = .ok (h x) s) : compL keep g tYes e ρ (l.map f) [] s = .ok (l.map h) s := by
  have := compL_map (t := tYes) (keep := keep) f (fun _ => true) h hk l [] fun x hx => let ⟨ρ1, h1, h2⟩ := H x hx; ⟨ρ1, h1, rfl, fun _ => h2⟩
  rw [this, List.filter_eq_self.mpr (fun _ _ => rfl)]
  rfl
/-- .. that only picks -/
theorem compL_pick {α : Type} {keep : S → Bool} {g : Gx} {t : Tx} {e : Ex} {ρ : FM.Env} {s : S} (f : α → Val) (p : α → Bool) (h : α → Val) (hk : keep s = true) (l : List α)
    (H : ∀ x ∈ l, ∃ ρ1, g (f x) ρ = some ρ1 ∧ t ρ1 s = .ok (p x) s ∧ (p x = true → e ρ1 s = .ok (h x) s)) : compL keep g t e ρ (l.map f) [] s = .ok ((l.filter p).map h) s := by
  rw [compL_map f p h hk l [] H]; rfl
theorem asL_vi (s : S) (l : List Int) : asL s (.lst (vi l)) = some (vi l) := rfl
/-! ### in -/
theorem any_vi (k : Int) : ∀ (l : List Int), ((vi l).any fun z => veq z (.int k)) = decide (k ∈ l)
  | [] => rfl
  | n :: l => by
    have e : veq (.int n) (.int k) = decide (n = k) := by simp [veq, toD, PyData.eqv]; rfl
    show (veq (.int n) (.int k) || (vi l).any fun z => veq z (.int k)) = _
    rw [any_vi k l, e]
    by_cases h : n = k
    · simp [h]
    · simp [h, show ¬ k = n from fun e => h e.symm]
theorem inQ_vi {s : S} {v : Val} {l : List Int} (h : asQ s v = some (vi l)) (k : Int) : inQ s (.int k) v = some (decide (k ∈ l)) := by
  unfold inQ
  rw [h]
  simp only [res_pure (show pure (.int k) = true from rfl), mapM_res_pure (pureAll_vi l)]
  rw [if_pos (by simp [shallow, toD, PyData.depth]), any_vi]
theorem opIn_vi {s : S} {v : Val} {l : List Int} (h : asQ s v = some (vi l)) (k : Int) : opIn s (.int k) v = some (.bl (decide (k ∈ l))) := by simp [opIn, inQ_vi h]
theorem opNotIn_vi {s : S} {v : Val} {l : List Int} (h : asQ s v = some (vi l)) (k : Int) : opNotIn s (.int k) v = some (.bl (!decide (k ∈ l))) := by simp [opNotIn, inQ_vi h]
/-! ### all, any -/
@[simp] theorem boolsOf_map {α : Type} (f : α → Bool) : ∀ l : List α, boolsOf (l.map fun x => .bl (f x)) = some (l.map f)
  | [] => rfl
  | x :: l => by simp [boolsOf, boolsOf_map f l]
/-! ### == [] -/
theorem veq_nil (l : List Val) : veq (.lst l) (.lst []) = l.isEmpty := by
  cases l <;> simp [veq, toD, toDs, PyData.eqv, PyData.eqvAll]
theorem opEq_nil {s : S} {l : List Val} (h : pureAll l = true) : opEq s (.lst l) (.lst []) = some (.bl l.isEmpty) := by
  have h1 : pure (.lst l) = true := by unfold pure; exact h
  simp only [opEq, res_pure h1, res_pure (show pure (.lst []) = true from rfl), veq_nil]
  rw [if_pos (by simp [shallow, toD, toDs, PyData.depth, PyData.depthAll])]
theorem opNe_nil {s : S} {l : List Val} (h : pureAll l = true) : opNe s (.lst l) (.lst []) = some (.bl (!l.isEmpty)) := by
  have h1 : pure (.lst l) = true := by unfold pure; exact h
  simp only [opNe, res_pure h1, res_pure (show pure (.lst []) = true from rfl), veq_nil]
  rw [if_pos (by simp [shallow, toD, toDs, PyData.depth, PyData.depthAll])]
end FM
namespace FM
open PySem PySem.Spec PyProof.Rows L2
def rg (m : Nat) : List Int := (List.range m).map fun (i : Nat) => (i : Int)
theorem rangeV_rg (m : Nat) : rangeV 0 m = vi (rg m) := by
  unfold rangeV vi rg
  rw [List.map_map]
  exact List.map_congr_left fun i _ => by simp
theorem erase_idx (x : Int) : ∀ l : List Int, l.eraseIdx (l.idxOf x) = l.erase x
  | [] => rfl
  | y :: l => by
    by_cases h : y = x
    · subst h; simp
    · have hb : (y == x) = false := by simpa using h
      simp [List.idxOf_cons, hb, List.erase_cons, erase_idx x l]
theorem ix_last (s : S) {l : List Int} {x : Int} (h : l.getLast? = some x) : opIx s (.lst (vi l)) (.int (-1)) = some (.int x) := by
  have hl : l ≠ [] := by intro e; subst e; cases h
  have hp : 0 < l.length := List.length_pos_iff.mpr hl
  simp only [opIx, asQ, asL]
  rw [show FM.ixN (vi l).length (-1) = some (l.length - 1) by
    simp only [FM.ixN, vi_len]
    rw [if_neg (by decide), if_pos (by omega)]
    congr 1; omega]
  show (vi l)[l.length - 1]? = _
  rw [vi_get, ← List.getLast?_eq_getElem?, h]; rfl
@[simp] theorem opNeg_int (s : S) (i : Int) : opNeg s (.int i) = some (.int (-i)) := rfl
end FM

set_option autoImplicit false
/-! rows modulo p: plain facts, no program in sight -/
namespace LN
def at0 (v : List Int) (i : Nat) : Int := v.getD i 0
@[simp] theorem at0_nil (i : Nat) : at0 [] i = 0 := by simp [at0]
@[simp] theorem at0_cons0 (x : Int) (v : List Int) : at0 (x :: v) 0 = x := rfl
@[simp] theorem at0_consS (x : Int) (v : List Int) (i : Nat) : at0 (x :: v) (i + 1) = at0 v i := by simp [at0]
theorem at0_get {v : List Int} {i : Nat} (h : i < v.length) : at0 v i = v[i] := by simp [at0, h]
theorem at0_out {v : List Int} {i : Nat} (h : v.length ≤ i) : at0 v i = 0 := by simp [at0, List.getElem?_eq_none h]
theorem at0_some {v : List Int} {i : Nat} {x : Int} (h : v[i]? = some x) : at0 v i = x := by simp [at0, h]
/-- a and k times b, item by item -/
def addm (p : Int) (a : List Int) (k : Int) (b : List Int) : List Int := (a.zip b).map fun q => (q.1 + k * q.2) % p
theorem addm_len {p k : Int} {a b : List Int} (h : a.length = b.length) : (addm p a k b).length = a.length := by simp [addm, h]
theorem addm_at {p k : Int} : ∀ {a b : List Int}, a.length = b.length → ∀ i, at0 (addm p a k b) i = (at0 a i + k * at0 b i) % p
  | [], [], _, i => by simp [addm]
  | [], _ :: _, h, _ => by simp at h
  | _ :: _, [], h, _ => by simp at h
  | x :: a, y :: b, h, i => by
    cases i with
    | zero => simp [addm]
    | succ i =>
      have := addm_at (p := p) (k := k) (a := a) (b := b) (by simpa using h) i
      simpa [addm] using this
/-- all items are from 0 to p less 1 -/
def InR (p : Int) (v : List Int) : Prop := ∀ x ∈ v, 0 ≤ x ∧ x < p
theorem addm_in {p k : Int} (hp : 0 < p) (a b : List Int) : InR p (addm p a k b) := by
  intro x hx
  obtain ⟨q, _, rfl⟩ := List.mem_map.mp hx
  exact ⟨Int.emod_nonneg _ (by omega), Int.emod_lt_of_pos _ hp⟩
theorem InR.at {p : Int} (hp : 0 < p) {v : List Int} (h : InR p v) (i : Nat) : 0 ≤ at0 v i ∧ at0 v i < p := by
  by_cases hi : i < v.length
  · rw [at0_get hi]; exact h _ (List.getElem_mem hi)
  · rw [at0_out (by omega)]; omega
/-- k times v -/
def mulm (p k : Int) (v : List Int) : List Int := v.map fun x => k * x % p
theorem mulm_at {p k : Int} (v : List Int) (i : Nat) : at0 (mulm p k v) i = k * at0 v i % p := by
  by_cases hi : i < v.length
  · rw [at0_get (by simpa [mulm] using hi), at0_get hi]; simp [mulm]
  · rw [at0_out (by simpa [mulm] using hi), at0_out (by omega)]; simp
theorem mulm_in {p k : Int} (hp : 0 < p) (v : List Int) : InR p (mulm p k v) := by
  intro x hx
  obtain ⟨q, _, rfl⟩ := List.mem_map.mp hx
  exact ⟨Int.emod_nonneg _ (by omega), Int.emod_lt_of_pos _ hp⟩
theorem mulm_add {p k : Int} (v : List Int) : addm p (List.replicate v.length 0) k v = mulm p k v := by
  induction v with
  | nil => rfl
  | cons x v ih =>
    simp only [addm, mulm, List.length_cons, List.replicate_succ, List.zip_cons_cons, List.map_cons, Int.zero_add] at ih ⊢
    rw [ih]
/-! ### linear forms -/
def Lin (L : (Nat → Int) → Int) : Prop := ∀ (f g : Nat → Int) (k : Int), L (fun i => f i + k * g i) = L f + k * L g
theorem Lin.addm {L : (Nat → Int) → Int} (hL : Lin L) {p k : Int} {a b : List Int} (h : a.length = b.length) : p ∣ L (at0 (addm p a k b)) - (L (at0 a) + k * L (at0 b)) := by
  have e : at0 (LN.addm p a k b) = fun i => (fun i => at0 a i + k * at0 b i) i + (-p) * (fun i => (at0 a i + k * at0 b i) / p) i := by
    funext i
    rw [addm_at h, Int.emod_def]
    show (at0 a i + k * at0 b i) - p * ((at0 a i + k * at0 b i) / p) = (at0 a i + k * at0 b i) + -p * ((at0 a i + k * at0 b i) / p)
    rw [Int.neg_mul]; omega
  rw [e, hL, hL]
  refine ⟨-L (fun i => (at0 a i + k * at0 b i) / p), ?_⟩
  rw [Int.neg_mul, Int.mul_neg]; omega
theorem Lin.mulm {L : (Nat → Int) → Int} (hL : Lin L) {p k : Int} (v : List Int) : p ∣ L (at0 (mulm p k v)) - k * L (at0 v) := by
  have z : L (at0 (List.replicate v.length 0)) = 0 := by
    have e : at0 (List.replicate v.length 0) = fun i => (fun _ => (0 : Int)) i + 0 * (fun _ => (0 : Int)) i := by
      funext i
      show at0 (List.replicate v.length 0) i = 0 + 0 * 0
      by_cases hi : i < v.length
      · rw [at0_get (by simpa using hi)]; simp
      · rw [at0_out (by simpa using hi)]; rfl
    have z0 : L (fun _ => 0) = 0 := by
      have := hL (fun _ => 0) (fun _ => 0) (-1)
      simp only [Int.mul_zero, Int.add_zero] at this
      omega
    rw [e, hL, z0]; rfl
  have := hL.addm (p := p) (k := k) (a := List.replicate v.length 0) (b := v) (by simp)
  rw [mulm_add, z] at this
  simpa using this
theorem dvd_add_mul {p a b k : Int} (hb : p ∣ b) : p ∣ a + k * b ↔ p ∣ a :=
  ⟨fun h => by have := Int.dvd_sub h (Int.dvd_mul_of_dvd_right (c := b) (a := p) (b := k) hb); rwa [show a + k * b - k * b = a by omega] at this, fun h => Int.dvd_add h (Int.dvd_mul_of_dvd_right hb)⟩
theorem dvd_of_sub {p a b : Int} (h : p ∣ a - b) : p ∣ a ↔ p ∣ b :=
  ⟨fun ha => by have := Int.dvd_sub ha h; rwa [show a - (a - b) = b by omega] at this, fun hb => by have := Int.dvd_add h hb; rwa [show a - b + b = a by omega] at this⟩
/-! ### sums -/
def sumN : Nat → (Nat → Int) → Int
  | 0, _ => 0
  | n + 1, f => sumN n f + f n
theorem sumN_congr {n : Nat} {f g : Nat → Int} (h : ∀ i, i < n → f i = g i) : sumN n f = sumN n g := by
  induction n with
  | zero => rfl
  | succ n ih =>
    show sumN n f + f n = sumN n g + g n
    rw [ih fun i hi => h i (by omega), h n (by omega)]
theorem sumN_lin (n : Nat) (f g : Nat → Int) (k : Int) : sumN n (fun i => f i + k * g i) = sumN n f + k * sumN n g := by
  induction n with
  | zero => simp [sumN]
  | succ n ih =>
    show sumN n _ + (f n + k * g n) = sumN n f + f n + k * (sumN n g + g n)
    rw [ih, Int.mul_add]; omega
theorem sumN_zero (n : Nat) {f : Nat → Int} (h : ∀ i, i < n → f i = 0) : sumN n f = 0 := by
  induction n with
  | zero => rfl
  | succ n ih =>
    show sumN n f + f n = 0
    rw [ih fun i hi => h i (by omega), h n (by omega)]; rfl
/-- one place changed -/
theorem sumN_at (n : Nat) (f g : Nat → Int) (a : Nat) (ha : a < n) (h : ∀ i, i < n → i ≠ a → f i = g i) : sumN n f = sumN n g + (f a - g a) := by
  induction n with
  | zero => omega
  | succ n ih =>
    show sumN n f + f n = sumN n g + g n + (f a - g a)
    by_cases e : a = n
    · subst e
      rw [sumN_congr fun i hi => h i (by omega) (by omega)]; omega
    · rw [ih (by omega) fun i hi => h i (by omega), h n (by omega) (fun z => e z.symm)]; omega
def dot (u v : List Int) : Int := ((u.zip v).map fun q => q.1 * q.2).sum
theorem sumN_shift (n : Nat) (f : Nat → Int) : sumN (n + 1) f = f 0 + sumN n fun i => f (i + 1) := by
  induction n with
  | zero => simp [sumN]
  | succ n ih =>
    rw [show sumN (n + 1 + 1) f = sumN (n + 1) f + f (n + 1) from rfl, ih]
    show _ = f 0 + (sumN n (fun i => f (i + 1)) + f (n + 1))
    omega
theorem dot_sum : ∀ (u v : List Int), u.length = v.length → dot u v = sumN u.length fun i => at0 u i * at0 v i
  | [], v, _ => by simp [dot, sumN]
  | x :: u, [], h => by simp at h
  | x :: u, y :: v, h => by
    rw [List.length_cons, sumN_shift]
    simp only [at0_cons0, at0_consS]
    rw [← dot_sum u v (by simpa using h)]
    simp [dot]
/-! ### primes -/
def Pr (p : Int) : Prop := p = 2 ∨ p = 3 ∨ p = 5 ∨ p = 7
theorem Pr.pos {p : Int} (h : Pr p) : 2 ≤ p ∧ p ≤ 7 := by unfold Pr at h; omega
/-- the inverse -/
def inv (p x : Int) : Int := (((List.range p.toNat).map fun (i : Nat) => (i : Int)).filter fun k => decide (x * k % p = 1)).headD 0
theorem inv_ok {p x : Int} (h : Pr p) (h0 : 0 < x) (h1 : x < p) : 0 < inv p x ∧ inv p x < p ∧ x * inv p x % p = 1 := by
  unfold Pr at h
  have : ∀ p ∈ [2, 3, 5, (7 : Int)], ∀ x ∈ [1, 2, 3, 4, 5, (6 : Int)], x < p → 0 < inv p x ∧ inv p x < p ∧ x * inv p x % p = 1 := by decide
  exact this p (by simp; omega) x (by simp; omega) h1
/-! ### elimination -/
abbrev Lv := List (Nat × List Int)
/-- v less multiples of the levels -/
def red (p : Int) (ls : Lv) (v : List Int) : List Int := ls.foldl (fun v l => addm p v (-at0 v l.1) l.2) v
/-- the first place with another item than 0 -/
def fnz (v : List Int) : Option Nat := (v.zipIdx.find? fun q => decide (q.1 ≠ 0)).map (·.2)
theorem red_cons (p : Int) (l : Nat × List Int) (ls : Lv) (v : List Int) : red p (l :: ls) v = red p ls (addm p v (-at0 v l.1) l.2) := rfl
theorem red_append (p : Int) (ls ms : Lv) (v : List Int) : red p (ls ++ ms) v = red p ms (red p ls v) := by simp [red]
theorem red_len {p : Int} : ∀ (ls : Lv) (v : List Int), (∀ l ∈ ls, l.2.length = v.length) → (red p ls v).length = v.length
  | [], v, _ => rfl
  | l :: ls, v, h => by
    have e : (addm p v (-at0 v l.1) l.2).length = v.length := addm_len (h l List.mem_cons_self).symm
    rw [red_cons, red_len ls _ fun q hq => by rw [e]; exact h q (List.mem_cons_of_mem _ hq), e]
theorem red_in {p : Int} (hp : 0 < p) : ∀ (ls : Lv) (v : List Int), InR p v → InR p (red p ls v)
  | [], v, h => h
  | l :: ls, v, h => red_in hp ls _ (addm_in hp _ _)
/-- a linear form that is 0 on the levels is not changed -/
theorem red_lin {L : (Nat → Int) → Int} (hL : Lin L) {p : Int} : ∀ (ls : Lv) (v : List Int), (∀ l ∈ ls, l.2.length = v.length) → (∀ l ∈ ls, p ∣ L (at0 l.2)) → (p ∣ L (at0 (red p ls v)) ↔ p ∣ L (at0 v))
  | [], v, _, _ => Iff.rfl
  | l :: ls, v, h, hl => by
    have hlen := h l List.mem_cons_self
    have e : (addm p v (-at0 v l.1) l.2).length = v.length := addm_len hlen.symm
    rw [red_cons, red_lin hL ls _ (fun q hq => by rw [e]; exact h q (List.mem_cons_of_mem _ hq)) fun q hq => hl q (List.mem_cons_of_mem _ hq), dvd_of_sub (hL.addm hlen.symm), dvd_add_mul (hl l List.mem_cons_self)]
/-- steps: 1 at the own place, 0 at the places of those ahead -/
inductive Steps (p : Int) (N : Nat) : Lv → Prop
  | nil : Steps p N []
  | snoc {ls : Lv} {l : Nat × List Int} : Steps p N ls → l.2.length = N → InR p l.2 → l.1 < N → at0 l.2 l.1 = 1 → (∀ q ∈ ls, at0 l.2 q.1 = 0) → Steps p N (ls ++ [l])
theorem Steps.len {p : Int} {N : Nat} {ls : Lv} (h : Steps p N ls) : ∀ l ∈ ls, l.2.length = N := by
  induction h with
  | nil => simp
  | snoc _ e _ _ _ _ ih =>
    intro l hl
    rcases List.mem_append.mp hl with hl | hl
    · exact ih l hl
    · rw [List.mem_singleton.mp hl]; exact e
theorem lin_at (i : Nat) : Lin fun f => f i := fun _ _ _ => rfl
/-- what is reduced is 0 at the places of all levels -/
theorem red_zero {p : Int} (hp : 1 < p) {N : Nat} {ls : Lv} (h : Steps p N ls) {v : List Int} (hv : v.length = N) (hi : InR p v) : ∀ l ∈ ls, at0 (red p ls v) l.1 = 0 := by
  induction h with
  | nil => simp
  | @snoc ls l hs e hr hn h1 h0 ih =>
    intro q hq
    have elen : (red p ls v).length = N := by rw [red_len ls v fun a ha => by rw [hv]; exact hs.len a ha, hv]
    rw [red_append]
    show at0 (addm p (red p ls v) (-at0 (red p ls v) l.1) l.2) q.1 = 0
    rw [addm_at (by rw [elen, e])]
    rcases List.mem_append.mp hq with hq | hq
    · rw [ih q hq, h0 q hq]; simp
    · rw [List.mem_singleton.mp hq, h1]
      rw [show at0 (red p ls v) l.1 + -at0 (red p ls v) l.1 * 1 = 0 by omega]; rfl
end LN

set_option autoImplicit false
/-! elimination, plain -/
namespace LN
theorem red_sub {L : (Nat → Int) → Int} (hL : Lin L) {p : Int} : ∀ (ls : Lv) (v : List Int), (∀ l ∈ ls, l.2.length = v.length) → (∀ l ∈ ls, p ∣ L (at0 l.2)) → p ∣ L (at0 (red p ls v)) - L (at0 v)
  | [], v, _, _ => by simp [red]
  | l :: ls, v, h, hl => by
    have hlen := h l List.mem_cons_self
    have e : (addm p v (-at0 v l.1) l.2).length = v.length := addm_len hlen.symm
    have ih := red_sub hL ls (addm p v (-at0 v l.1) l.2) (fun q hq => by rw [e]; exact h q (List.mem_cons_of_mem _ hq)) fun q hq => hl q (List.mem_cons_of_mem _ hq)
    have h1 := hL.addm (p := p) (k := -at0 v l.1) hlen.symm
    have h2 : p ∣ -at0 v l.1 * L (at0 l.2) := Int.dvd_mul_of_dvd_right (hl l List.mem_cons_self)
    rw [red_cons]
    have := Int.dvd_add (Int.dvd_add ih h1) h2
    refine Int.dvd_trans (Int.dvd_refl _) ?_
    rw [show L (at0 (red p ls (addm p v (-at0 v l.1) l.2))) - L (at0 v) = L (at0 (red p ls (addm p v (-at0 v l.1) l.2))) - L (at0 (addm p v (-at0 v l.1) l.2)) + (L (at0 (addm p v (-at0 v l.1) l.2)) - (L (at0 v) + -at0 v l.1 * L (at0 l.2))) + -at0 v l.1 * L (at0 l.2) by omega]
    exact this
/-! ### the first place -/
theorem fnz_nil : fnz [] = none := rfl
theorem fnz_aux : ∀ (v : List Int) (k : Nat), ((v.zipIdx k).find? fun q => decide (q.1 ≠ 0)).map (·.2) = (fnz v).map (· + k)
  | [], k => rfl
  | x :: v, k => by
    unfold fnz
    rw [List.zipIdx_cons, List.zipIdx_cons]
    by_cases h : x = 0
    · subst h
      simp only [List.find?_cons, ne_eq, not_true_eq_false, decide_false]
      rw [fnz_aux v (k + 1), fnz_aux v (0 + 1)]
      cases fnz v <;> simp; omega
    · simp [List.find?_cons, h]
theorem fnz_cons (x : Int) (v : List Int) : fnz (x :: v) = if x = 0 then (fnz v).map (· + 1) else some 0 := by
  unfold fnz
  rw [List.zipIdx_cons]
  by_cases h : x = 0
  · subst h
    simp only [List.find?_cons, ne_eq, not_true_eq_false, decide_false, if_true]
    rw [fnz_aux v (0 + 1)]; simp [fnz]
  · simp [List.find?_cons, h]
theorem fnz_none : ∀ {v : List Int}, fnz v = none ↔ ∀ i, at0 v i = 0
  | [] => by simp [fnz_nil]
  | x :: v => by
    rw [fnz_cons]
    by_cases h : x = 0
    · subst h
      rw [if_pos rfl, Option.map_eq_none_iff, fnz_none (v := v)]
      constructor
      · intro q i; cases i with
        | zero => rfl
        | succ i => simpa using q i
      · intro q i; simpa using q (i + 1)
    · rw [if_neg h]
      constructor
      · intro q; cases q
      · intro q; exact absurd (q 0) h
theorem fnz_some : ∀ {v : List Int} {a : Nat}, fnz v = some a → a < v.length ∧ at0 v a ≠ 0
  | [], a, h => by simp [fnz_nil] at h
  | x :: v, a, h => by
    rw [fnz_cons] at h
    by_cases e : x = 0
    · rw [if_pos e] at h
      obtain ⟨b, hb, rfl⟩ := Option.map_eq_some_iff.mp h
      obtain ⟨h1, h2⟩ := fnz_some hb
      exact ⟨by simpa using h1, by simpa using h2⟩
    · rw [if_neg e] at h
      cases h
      exact ⟨by simp, by simpa using e⟩
theorem at0_take (v : List Int) (n i : Nat) : at0 (v.take n) i = if i < n then at0 v i else 0 := by
  unfold at0
  by_cases h : i < n
  · rw [if_pos h]; simp [List.getElem?_take, h]
  · rw [if_neg h]; simp [List.getElem?_take, h]
/-! ### one step -/
def stepE (p : Int) (n : Nat) (st : Lv × List (List Int)) (v : List Int) : Lv × List (List Int) :=
  match fnz ((red p st.1 v).take n) with
  | none => (st.1, st.2 ++ [red p st.1 v])
  | some a => (st.1 ++ [(a, mulm p (inv p (at0 (red p st.1 v) a)) (red p st.1 v))], st.2)
def elim (p : Int) (n : Nat) (vs : List (List Int)) : Lv × List (List Int) := vs.foldl (stepE p n) ([], [])
theorem elim_snoc (p : Int) (n : Nat) (vs : List (List Int)) (v : List Int) : elim p n (vs ++ [v]) = stepE p n (elim p n vs) v := by simp [elim]
/-- what holds of levels and spare lines -/
structure EI (p : Int) (n N : Nat) (vs : List (List Int)) (st : Lv × List (List Int)) : Prop where
  steps : Steps p N st.1
  low : ∀ l ∈ st.1, l.1 < n
  spl : ∀ w ∈ st.2, w.length = N
  spi : ∀ w ∈ st.2, InR p w
  spz : ∀ w ∈ st.2, ∀ i, i < n → at0 w i = 0
  fwd : ∀ L, Lin L → (∀ v ∈ vs, p ∣ L (at0 v)) → (∀ l ∈ st.1, p ∣ L (at0 l.2)) ∧ ∀ w ∈ st.2, p ∣ L (at0 w)
  bwd : ∀ L, Lin L → (∀ l ∈ st.1, p ∣ L (at0 l.2)) → (∀ w ∈ st.2, p ∣ L (at0 w)) → ∀ v ∈ vs, p ∣ L (at0 v)
theorem ei_nil (p : Int) (n N : Nat) : EI p n N [] ([], []) := ⟨.nil, by simp, by simp, by simp, by simp, by simp, by simp⟩
theorem one_of {p x : Int} (hp : 2 ≤ p) (h0 : 0 ≤ x) (h1 : x < p) (h : p ∣ x - 1) : x = 1 := by
  obtain ⟨c, hc⟩ := h
  have : c = 0 := by
    by_cases z : c = 0
    · exact z
    · exfalso
      rcases Int.lt_or_gt_of_ne z with z | z
      · have : p * c ≤ p * (-1) := Int.mul_le_mul_of_nonneg_left (by omega) (by omega)
        omega
      · have : p * 1 ≤ p * c := Int.mul_le_mul_of_nonneg_left (by omega) (by omega)
        omega
  subst this; omega
theorem zero_of {p x : Int} (hp : 0 < p) (h0 : 0 ≤ x) (h1 : x < p) (h : p ∣ x) : x = 0 := by
  have := Int.emod_eq_of_lt h0 h1
  rw [← this]; exact Int.emod_eq_zero_of_dvd h
theorem ei_step {p : Int} (hp : Pr p) {n N : Nat} (hn : n ≤ N) {vs : List (List Int)} {st : Lv × List (List Int)} (h : EI p n N vs st) {v : List Int} (hv : v.length = N) (hi : InR p v) : EI p n N (vs ++ [v]) (stepE p n st v) := by
  have hp2 := hp.pos
  have hlen : ∀ l ∈ st.1, l.2.length = v.length := fun l hl => by rw [hv]; exact h.steps.len l hl
  have wl : (red p st.1 v).length = N := by rw [red_len st.1 v hlen, hv]
  have wi : InR p (red p st.1 v) := red_in (by omega) _ _ hi
  have key : ∀ L, Lin L → (∀ l ∈ st.1, p ∣ L (at0 l.2)) → (p ∣ L (at0 (red p st.1 v)) ↔ p ∣ L (at0 v)) := fun L hL hl => red_lin hL st.1 v hlen hl
  unfold stepE
  cases e : fnz ((red p st.1 v).take n) with
  | none =>
    have z := fnz_none.mp e
    refine ⟨h.steps, h.low, fun w hw => ?_, fun w hw => ?_, fun w hw i hi => ?_, fun L hL hh => ?_, fun L hL hl hs u hu => ?_⟩
    · rcases List.mem_append.mp hw with hw | hw
      · exact h.spl w hw
      · rw [List.mem_singleton.mp hw]; exact wl
    · rcases List.mem_append.mp hw with hw | hw
      · exact h.spi w hw
      · rw [List.mem_singleton.mp hw]; exact wi
    · rcases List.mem_append.mp hw with hw | hw
      · exact h.spz w hw i hi
      · rw [List.mem_singleton.mp hw]
        have := z i
        rwa [at0_take, if_pos hi] at this
    · obtain ⟨f1, f2⟩ := h.fwd L hL fun u hu => hh u (List.mem_append_left _ hu)
      refine ⟨f1, fun w hw => ?_⟩
      rcases List.mem_append.mp hw with hw | hw
      · exact f2 w hw
      · rw [List.mem_singleton.mp hw]
        exact (key L hL f1).mpr (hh v (List.mem_append_right _ List.mem_cons_self))
    · rcases List.mem_append.mp hu with hu | hu
      · exact h.bwd L hL hl (fun w hw => hs w (List.mem_append_left _ hw)) u hu
      · rw [List.mem_singleton.mp hu]
        exact (key L hL hl).mp (hs _ (List.mem_append_right _ List.mem_cons_self))
  | some a =>
    obtain ⟨ha, hz⟩ := fnz_some e
    have han : a < n := by rw [List.length_take] at ha; omega
    rw [at0_take, if_pos han] at hz
    have hr := wi.at (by omega) a
    obtain ⟨i0, i1, i2⟩ := inv_ok hp (x := at0 (red p st.1 v) a) (by omega) hr.2
    generalize hk : inv p (at0 (red p st.1 v) a) = k at i0 i1 i2
    have back : ∀ L, Lin L → (p ∣ L (at0 (mulm p k (red p st.1 v))) ↔ p ∣ L (at0 (red p st.1 v))) := fun L hL => by
      have h1 := hL.mulm (p := p) (k := k) (red p st.1 v)
      rw [dvd_of_sub h1]
      refine ⟨fun q => ?_, fun q => Int.dvd_mul_of_dvd_right q⟩
      have q2 : p ∣ at0 (red p st.1 v) a * (k * L (at0 (red p st.1 v))) := Int.dvd_mul_of_dvd_right q
      have q3 : p ∣ at0 (red p st.1 v) a * k - 1 := by
        have := Int.emod_add_mul_ediv (at0 (red p st.1 v) a * k) p
        rw [i2] at this
        exact ⟨at0 (red p st.1 v) a * k / p, by omega⟩
      have q4 := Int.dvd_sub q2 (Int.dvd_mul_of_dvd_left q3 (c := L (at0 (red p st.1 v))))
      have e4 : at0 (red p st.1 v) a * (k * L (at0 (red p st.1 v))) - (at0 (red p st.1 v) a * k - 1) * L (at0 (red p st.1 v)) = L (at0 (red p st.1 v)) := by
        rw [Int.sub_mul, Int.one_mul, Int.mul_assoc]; omega
      rwa [e4] at q4
    show EI p n N (vs ++ [v]) (st.1 ++ [(a, mulm p (inv p (at0 (red p st.1 v) a)) (red p st.1 v))], st.2)
    rw [hk]
    refine ⟨.snoc h.steps (by simp [mulm, wl]) (mulm_in (by omega) _) (by show a < N; omega) ?_ fun q hq => ?_, fun l hl => ?_, h.spl, h.spi, h.spz, fun L hL hh => ?_, fun L hL hl hs u hu => ?_⟩
    · show at0 (mulm p k (red p st.1 v)) a = 1
      rw [mulm_at, Int.mul_comm, i2]
    · show at0 (mulm p k (red p st.1 v)) q.1 = 0
      rw [mulm_at, red_zero (by omega) h.steps hv hi q hq]; simp
    · rcases List.mem_append.mp hl with hl | hl
      · exact h.low l hl
      · rw [List.mem_singleton.mp hl]; exact han
    · obtain ⟨f1, f2⟩ := h.fwd L hL fun u hu => hh u (List.mem_append_left _ hu)
      refine ⟨fun l hl => ?_, f2⟩
      rcases List.mem_append.mp hl with hl | hl
      · exact f1 l hl
      · rw [List.mem_singleton.mp hl]
        exact (back L hL).mpr ((key L hL f1).mpr (hh v (List.mem_append_right _ List.mem_cons_self)))
    · have hl0 : ∀ l ∈ st.1, p ∣ L (at0 l.2) := fun l hq => hl l (List.mem_append_left _ hq)
      rcases List.mem_append.mp hu with hu | hu
      · exact h.bwd L hL hl0 hs u hu
      · rw [List.mem_singleton.mp hu]
        exact (key L hL hl0).mp ((back L hL).mp (hl _ (List.mem_append_right _ List.mem_cons_self)))
theorem snoc_ind {α : Type} {P : List α → Prop} (h0 : P []) (h1 : ∀ l a, P l → P (l ++ [a])) : ∀ l, P l := fun l => by
  rw [← List.reverse_reverse l]
  induction l.reverse with
  | nil => exact h0
  | cons a l ih => rw [List.reverse_cons]; exact h1 _ _ ih
theorem ei_elim {p : Int} (hp : Pr p) {n N : Nat} (hn : n ≤ N) : ∀ (vs : List (List Int)), (∀ v ∈ vs, v.length = N) → (∀ v ∈ vs, InR p v) → EI p n N vs (elim p n vs) := by
  refine snoc_ind ?_ ?_
  · intro _ _; exact ei_nil p n N
  · intro vs v ih h1 h2
    rw [elim_snoc]
    exact ei_step hp hn (ih (fun u hu => h1 u (List.mem_append_left _ hu)) fun u hu => h2 u (List.mem_append_left _ hu)) (h1 v (List.mem_append_right _ List.mem_cons_self)) (h2 v (List.mem_append_right _ List.mem_cons_self))
/-- a spare line uses its own row once -/
theorem elim_own {p : Int} (hp : Pr p) {n N b : Nat} (hn : n ≤ N) : ∀ (vs : List (List Int)), (∀ v ∈ vs, v.length = N) → (∀ v ∈ vs, InR p v) → (∀ (i j : Nat) (v : List Int), vs[i]? = some v → j < vs.length → at0 v (b + j) = if i = j then 1 else 0) →
    ∀ w ∈ (elim p n vs).2, ∃ j, j < vs.length ∧ at0 w (b + j) = 1 := by
  have hp2 := hp.pos
  refine snoc_ind ?_ ?_
  · intro _ _ _ w hw; simp [elim] at hw
  · intro vs v ih h1 h2 h3 w hw
    have h1' : ∀ u ∈ vs, u.length = N := fun u hu => h1 u (List.mem_append_left _ hu)
    have h2' : ∀ u ∈ vs, InR p u := fun u hu => h2 u (List.mem_append_left _ hu)
    have ei := ei_elim hp hn vs h1' h2'
    rw [elim_snoc] at hw
    unfold stepE at hw
    have old : w ∈ (elim p n vs).2 → ∃ j, j < (vs ++ [v]).length ∧ at0 w (b + j) = 1 := fun hw => by
      obtain ⟨j, hj, e⟩ := ih h1' h2' (fun i j u hu hj => h3 i j u (by rw [List.getElem?_append_left (List.getElem?_eq_some_iff.mp hu).1]; exact hu) (by simp; omega)) w hw
      exact ⟨j, by simp; omega, e⟩
    split at hw
    · rcases List.mem_append.mp hw with hw | hw
      · exact old hw
      · refine ⟨vs.length, by simp, ?_⟩
        rw [List.mem_singleton.mp hw]
        have hvl : v.length = N := h1 v (List.mem_append_right _ List.mem_cons_self)
        have hz : ∀ u ∈ vs, p ∣ (fun f : Nat → Int => f (b + vs.length)) (at0 u) := fun u hu => by
          obtain ⟨i, hi, e⟩ := List.getElem_of_mem hu
          have := h3 i vs.length u (by rw [List.getElem?_append_left hi, List.getElem?_eq_getElem hi, e]) (by simp)
          show p ∣ at0 u (b + vs.length)
          rw [this, if_neg (by omega)]; exact Int.dvd_zero _
        obtain ⟨f1, _⟩ := ei.fwd _ (lin_at (b + vs.length)) hz
        have r := red_sub (lin_at (b + vs.length)) (elim p n vs).1 v (fun l hl => by rw [hvl]; exact ei.steps.len l hl) f1
        have e1 := h3 vs.length vs.length v (by simp) (by simp)
        rw [if_pos rfl] at e1
        simp only [e1] at r
        have wi : InR p (red p (elim p n vs).1 v) := red_in (by omega) _ _ (h2 v (List.mem_append_right _ List.mem_cons_self))
        have q := wi.at (by omega) (b + vs.length)
        exact one_of hp2.1 q.1 q.2 r
    · exact old hw
end LN

set_option autoImplicit false
/-! projections, the law's words, worlds: plain -/
namespace LN
def tk (M : Nat) (l : Nat × List Int) : Nat × List Int := (l.1, l.2.take M)
theorem addm_take (p k : Int) (M : Nat) : ∀ (a b : List Int), (addm p a k b).take M = addm p (a.take M) k (b.take M) := fun a b => by
  unfold addm
  rw [← List.map_take]
  congr 1
  induction a generalizing b M with
  | nil => simp
  | cons x a ih =>
    cases b with
    | nil => simp
    | cons y b =>
      cases M with
      | zero => simp
      | succ M => simp [ih]
theorem red_take {p : Int} {M : Nat} : ∀ (ls : Lv) (v : List Int), (∀ l ∈ ls, l.1 < M) → (red p ls v).take M = red p (ls.map (tk M)) (v.take M)
  | [], v, _ => rfl
  | l :: ls, v, h => by
    rw [red_cons, red_take ls _ fun q hq => h q (List.mem_cons_of_mem _ hq), addm_take]
    rw [List.map_cons, red_cons]
    show red p (ls.map (tk M)) (addm p (v.take M) (-at0 v l.1) (l.2.take M)) = red p (ls.map (tk M)) (addm p (v.take M) (-at0 (v.take M) l.1) (l.2.take M))
    rw [at0_take, if_pos (h l List.mem_cons_self)]
theorem mulm_take (p k : Int) (M : Nat) (v : List Int) : (mulm p k v).take M = mulm p k (v.take M) := by simp [mulm, List.map_take]
theorem stepE_low {p : Int} {n : Nat} {st : Lv × List (List Int)} {v : List Int} (h : ∀ l ∈ st.1, l.1 < n) : ∀ l ∈ (stepE p n st v).1, l.1 < n := by
  unfold stepE
  split
  · exact h
  · rename_i a e
    intro l hl
    rcases List.mem_append.mp hl with hl | hl
    · exact h l hl
    · rw [List.mem_singleton.mp hl]
      have := (fnz_some e).1
      rw [List.length_take] at this
      show a < n
      omega
theorem elim_low {p : Int} {n : Nat} : ∀ (vs : List (List Int)), ∀ l ∈ (elim p n vs).1, l.1 < n := by
  refine snoc_ind ?_ ?_
  · intro l hl; simp [elim] at hl
  · intro vs v ih; rw [elim_snoc]; exact stepE_low ih
theorem elim_take {p : Int} {n M : Nat} (hM : n ≤ M) : ∀ (vs : List (List Int)), elim p n (vs.map (List.take M)) = ((elim p n vs).1.map (tk M), (elim p n vs).2.map (List.take M)) := by
  refine snoc_ind rfl ?_
  intro vs v ih
  rw [List.map_append, List.map_cons, List.map_nil, elim_snoc, elim_snoc, ih]
  have lo := elim_low (p := p) (n := n) vs
  have e : (red p ((elim p n vs).1.map (tk M)) (v.take M)) = (red p (elim p n vs).1 v).take M := (red_take _ v fun l hl => Nat.lt_of_lt_of_le (lo l hl) hM).symm
  unfold stepE
  rw [e, List.take_take, Nat.min_eq_left hM]
  cases hz : fnz ((red p (elim p n vs).1 v).take n) with
  | none => simp
  | some a =>
    have ha := (fnz_some hz).1
    rw [List.length_take] at ha
    have : at0 ((red p (elim p n vs).1 v).take M) a = at0 (red p (elim p n vs).1 v) a := by rw [at0_take, if_pos (by omega)]
    simp [this, tk, mulm_take]
theorem elim_count {p : Int} {n : Nat} : ∀ (vs : List (List Int)), (elim p n vs).1.length + (elim p n vs).2.length = vs.length := by
  refine snoc_ind rfl ?_
  intro vs v ih
  rw [elim_snoc]
  unfold stepE
  split <;> simp <;> omega
/-- two rows that differ at c alone -/
theorem red_diff {p : Int} {c : Nat} : ∀ (ls : Lv) (v w : List Int), v.length = w.length → (∀ l ∈ ls, l.2.length = v.length ∧ l.1 ≠ c) → (∀ i, i ≠ c → at0 v i = at0 w i) →
    (∀ i, i ≠ c → at0 (red p ls v) i = at0 (red p ls w) i) ∧ p ∣ (at0 (red p ls v) c - at0 (red p ls w) c) - (at0 v c - at0 w c)
  | [], v, w, _, _, h => ⟨h, by simp [red]⟩
  | l :: ls, v, w, hl, hh, h => by
    obtain ⟨h1, h2⟩ := hh l List.mem_cons_self
    have e1 : (addm p v (-at0 v l.1) l.2).length = v.length := addm_len h1.symm
    have e2 : (addm p w (-at0 w l.1) l.2).length = w.length := addm_len (by omega)
    have ek : at0 v l.1 = at0 w l.1 := h _ h2
    rw [red_cons, red_cons]
    obtain ⟨q1, q2⟩ := red_diff ls (addm p v (-at0 v l.1) l.2) (addm p w (-at0 w l.1) l.2) (by omega) (fun q hq => by rw [e1]; exact hh q (List.mem_cons_of_mem _ hq)) fun i hi => by
      rw [addm_at h1.symm, addm_at (by omega), ek, h i hi]
    refine ⟨q1, ?_⟩
    have r1 : p ∣ at0 (addm p v (-at0 v l.1) l.2) c - (at0 v c + -at0 v l.1 * at0 l.2 c) := by
      rw [addm_at h1.symm, Int.emod_def]; exact ⟨-((at0 v c + -at0 v l.1 * at0 l.2 c) / p), by rw [Int.mul_neg]; omega⟩
    have r2 : p ∣ at0 (addm p w (-at0 w l.1) l.2) c - (at0 w c + -at0 w l.1 * at0 l.2 c) := by
      rw [addm_at (show w.length = l.2.length by omega), Int.emod_def]; exact ⟨-((at0 w c + -at0 w l.1 * at0 l.2 c) / p), by rw [Int.mul_neg]; omega⟩
    simp only [ek] at q2 r1 r2 ⊢
    have := Int.dvd_add q2 (Int.dvd_sub r1 r2)
    rw [show (at0 (red p ls (addm p v (-at0 w l.1) l.2)) c - at0 (red p ls (addm p w (-at0 w l.1) l.2)) c - (at0 (addm p v (-at0 w l.1) l.2) c - at0 (addm p w (-at0 w l.1) l.2) c)) + ((at0 (addm p v (-at0 w l.1) l.2) c - (at0 v c + -at0 w l.1 * at0 l.2 c)) - (at0 (addm p w (-at0 w l.1) l.2) c - (at0 w c + -at0 w l.1 * at0 l.2 c))) = (at0 (red p ls (addm p v (-at0 w l.1) l.2)) c - at0 (red p ls (addm p w (-at0 w l.1) l.2)) c) - (at0 v c - at0 w c) by omega] at this
    exact this
theorem ext0 {a b : List Int} (hl : a.length = b.length) (h : ∀ i, at0 a i = at0 b i) : a = b := by
  refine List.ext_getElem hl fun i h1 h2 => ?_
  have := h i
  rwa [at0_get h1, at0_get h2] at this
/-- the row without its combination -/
def sn (r : List Int × Int) : List Int := r.1 ++ [r.2]
theorem at0_app (a b : List Int) (i : Nat) : at0 (a ++ b) i = if i < a.length then at0 a i else at0 b (i - a.length) := by
  unfold at0
  by_cases h : i < a.length
  · rw [if_pos h]; simp [List.getElem?_append_left h]
  · rw [if_neg h]; simp [List.getElem?_append_right (Nat.le_of_not_lt h)]
/-- the law's question beside the program's -/
theorem given_row {p : Int} (hp : Pr p) {n : Nat} {ls : Lv} (hs : Steps p (n + 1) ls) (lo : ∀ l ∈ ls, l.1 < n) {r : List Int × Int} (h1 : r.1.length = n) (h2 : InR p r.1) (h3 : 0 ≤ r.2 ∧ r.2 < p) :
    (red p ls (r.1 ++ [0])).take n = (red p ls (sn r)).take n ∧ decide ((-at0 (red p ls (r.1 ++ [0])) n) % p = r.2) = decide (at0 (red p ls (sn r)) n = 0) := by
  have hp2 := hp.pos
  have l1 : (r.1 ++ [(0 : Int)]).length = n + 1 := by simp [h1]
  have l2 : (sn r).length = n + 1 := by simp [sn, h1]
  have dif := red_diff (p := p) (c := n) ls (sn r) (r.1 ++ [0]) (by omega) (fun l hl => ⟨by rw [l2]; exact hs.len l hl, Nat.ne_of_lt (lo l hl)⟩) fun i hi => by
    unfold sn
    rw [at0_app, at0_app]
    by_cases h : i < r.1.length
    · rw [if_pos h, if_pos h]
    · rw [if_neg h, if_neg h, at0_out (by simp; omega), at0_out (by simp; omega)]
  obtain ⟨d1, d2⟩ := dif
  have a1 : at0 (sn r) n = r.2 := by unfold sn; rw [at0_app, if_neg (by omega)]; simp [h1]
  have a2 : at0 (r.1 ++ [(0 : Int)]) n = 0 := by rw [at0_app, if_neg (by omega)]; simp [h1]
  rw [a1, a2] at d2
  have len1 : (red p ls (sn r)).length = n + 1 := by rw [red_len ls _ fun l hl => by rw [l2]; exact hs.len l hl, l2]
  have len2 : (red p ls (r.1 ++ [0])).length = n + 1 := by rw [red_len ls _ fun l hl => by rw [l1]; exact hs.len l hl, l1]
  refine ⟨ext0 (by simp [len1, len2]) fun i => ?_, ?_⟩
  · rw [at0_take, at0_take]
    by_cases h : i < n
    · rw [if_pos h, if_pos h, d1 i (by omega)]
    · rw [if_neg h, if_neg h]
  · have inr : InR p (red p ls (sn r)) := red_in (by omega) _ _ (by
      intro x hx
      rcases List.mem_append.mp hx with hx | hx
      · exact h2 x hx
      · rw [List.mem_singleton.mp hx]; exact h3)
    have b := inr.at (by omega) n
    generalize at0 (red p ls (sn r)) n = x at d2 b
    generalize at0 (red p ls (r.1 ++ [0])) n = y at d2
    apply Bool.eq_iff_iff.mpr
    rw [decide_eq_true_eq, decide_eq_true_eq]
    constructor
    · intro e
      have q := Int.emod_add_mul_ediv (-y) p
      rw [e] at q
      have d3 : p ∣ r.2 + y := ⟨-(-y / p), by rw [Int.mul_neg]; omega⟩
      have d4 := Int.dvd_add d2 d3
      rw [show x - y - (r.2 - 0) + (r.2 + y) = x by omega] at d4
      exact zero_of (by omega) b.1 b.2 d4
    · intro e
      subst e
      obtain ⟨c, hc⟩ := d2
      have : -y = r.2 + p * c := by omega
      rw [this, Int.add_mul_emod_self_left, Int.emod_eq_of_lt h3.1 h3.2]
/-! ### worlds -/
def set1 (p : Int) (n : Nat) (w : List Int) (l : Nat × List Int) (c : Int) : List Int := (w.set l.1 0).set l.1 ((c - dot (l.2.take n) (w.set l.1 0) % p) % p)
def fill (p : Int) (n : Nat) (c : Nat × List Int → Int) (ls : Lv) (w : List Int) : List Int := ls.reverse.foldl (fun w l => set1 p n w l (c l)) w
theorem fill_snoc (p : Int) (n : Nat) (c : Nat × List Int → Int) (ls : Lv) (l : Nat × List Int) (w : List Int) : fill p n c (ls ++ [l]) w = fill p n c ls (set1 p n w l (c l)) := by simp [fill]
theorem at0_set (w : List Int) (a : Nat) (x : Int) (i : Nat) : at0 (w.set a x) i = if i = a ∧ a < w.length then x else at0 w i := by
  unfold at0
  by_cases h : i = a
  · subst h
    by_cases h2 : i < w.length
    · rw [if_pos ⟨rfl, h2⟩]; simp [List.getElem?_set_self h2]
    · rw [if_neg (by simp [h2])]; simp [h2]
  · rw [if_neg (by simp [h]), List.getD_eq_getElem?_getD, List.getElem?_set_ne (fun e => h e.symm), List.getD_eq_getElem?_getD]
def dotN (n : Nat) (u w : List Int) : Int := sumN n fun i => at0 u i * at0 w i
theorem dotN_set {n : Nat} (u w : List Int) {a : Nat} (x : Int) (ha : a < n) (hw : w.length = n) : dotN n u (w.set a x) = dotN n u w + at0 u a * (x - at0 w a) := by
  unfold dotN
  rw [sumN_at n _ (fun i => at0 u i * at0 w i) a ha fun i _ hi => by rw [at0_set, if_neg (by simp [hi])]]
  rw [at0_set, if_pos ⟨rfl, by omega⟩, Int.mul_sub]
theorem dot_take {n : Nat} {u w : List Int} (hu : n ≤ u.length) (hw : w.length = n) : dot (u.take n) w = dotN n u w := by
  rw [dot_sum _ _ (by simp; omega)]
  rw [show (u.take n).length = n by simp; omega]
  exact sumN_congr fun i hi => by rw [at0_take, if_pos hi]
theorem set1_in {p : Int} (hp : 0 < p) {n : Nat} {w : List Int} (l : Nat × List Int) (c : Int) (h : InR p w) : InR p (set1 p n w l c) := by
  intro x hx
  unfold set1 at hx
  rcases List.mem_or_eq_of_mem_set hx with hx | hx
  · rcases List.mem_or_eq_of_mem_set hx with hx | hx
    · exact h x hx
    · subst hx; omega
  · subst hx; exact ⟨Int.emod_nonneg _ (by omega), Int.emod_lt_of_pos _ hp⟩
theorem set1_len {p : Int} {n : Nat} (w : List Int) (l : Nat × List Int) (c : Int) : (set1 p n w l c).length = w.length := by simp [set1]
theorem set1_ok {p : Int} {n : Nat} {w : List Int} (hw : w.length = n) {l : Nat × List Int} (c : Int) (hl : l.1 < n) (hn : n ≤ l.2.length) (h1 : at0 l.2 l.1 = 1) : p ∣ dotN n l.2 (set1 p n w l c) - c := by
  unfold set1
  rw [dotN_set l.2 (w.set l.1 0) _ hl (by simpa using hw), h1, dot_take hn (by simpa using hw), at0_set, if_pos ⟨rfl, by omega⟩]
  generalize dotN n l.2 (w.set l.1 0) = d
  rw [Int.emod_def (c - d % p) p, Int.emod_def d p]
  refine ⟨d / p - (c - (d - p * (d / p))) / p, ?_⟩
  rw [Int.mul_sub p]; omega
theorem fill_ok {p : Int} (hp : 0 < p) {n N : Nat} (hN : n ≤ N) {ls : Lv} (hs : Steps p N ls) (lo : ∀ l ∈ ls, l.1 < n) (c : Nat × List Int → Int) : ∀ w : List Int, w.length = n → InR p w →
    (fill p n c ls w).length = n ∧ InR p (fill p n c ls w) ∧ (∀ u : List Int, (∀ l ∈ ls, at0 u l.1 = 0) → dotN n u (fill p n c ls w) = dotN n u w) ∧ ∀ l ∈ ls, p ∣ dotN n l.2 (fill p n c ls w) - c l := by
  induction hs with
  | nil => intro w h1 h2; exact ⟨h1, h2, fun _ _ => rfl, by simp⟩
  | @snoc ls l hs e hr hn h1 h0 ih =>
    intro w hw hi
    have hl : l.1 < n := lo l (List.mem_append_right _ List.mem_cons_self)
    rw [fill_snoc]
    obtain ⟨q1, q2, q3, q4⟩ := ih (fun q hq => lo q (List.mem_append_left _ hq)) (set1 p n w l (c l)) (by rw [set1_len]; exact hw) (set1_in hp l _ hi)
    refine ⟨q1, q2, fun u hu => ?_, fun q hq => ?_⟩
    · rw [q3 u fun a ha => hu a (List.mem_append_left _ ha)]
      have z := hu l (List.mem_append_right _ List.mem_cons_self)
      unfold set1
      rw [dotN_set u (w.set l.1 0) _ hl (by simpa using hw), dotN_set u w _ hl hw, z]; simp
    · rcases List.mem_append.mp hq with hq | hq
      · exact q4 q hq
      · rw [List.mem_singleton.mp hq, q3 l.2 h0]
        exact set1_ok hw (c l) hl (by omega) h1
theorem fnz_range : ∀ v : List Int, fnz v = ((List.range v.length).filter fun i => decide (at0 v i ≠ 0)).head?
  | [] => rfl
  | x :: v => by
    rw [fnz_cons, List.length_cons, List.range_succ_eq_map, List.filter_cons]
    by_cases h : x = 0
    · subst h
      rw [if_pos rfl, fnz_range v]
      simp only [at0_cons0, ne_eq, not_true_eq_false, decide_false, Bool.false_eq_true, if_false, List.filter_map, List.head?_map]
      congr 2
    · simp [h]
theorem fnz_places {w : List Int} {n : Nat} (h : n ≤ w.length) : fnz (w.take n) = ((List.range n).filter fun i => decide (at0 w i ≠ 0)).head? := by
  rw [fnz_range, List.length_take, Nat.min_eq_left h]
  congr 1
  exact List.filter_congr fun i hi => by rw [at0_take, if_pos (List.mem_range.mp hi)]
theorem stepE_more {p : Int} {n : Nat} : ∀ (vs : List (List Int)) (st : Lv × List (List Int)), st.2 ≠ [] → (vs.foldl (stepE p n) st).2 ≠ []
  | [], st, h => h
  | v :: vs, st, h => by
    rw [List.foldl_cons]
    refine stepE_more vs _ ?_
    unfold stepE
    split
    · simp
    · exact h
end LN

set_option autoImplicit false
/-! values and constructs run: walks, stars, isinstance -/
namespace FM
open PySem PySem.Spec PyProof.Rows L2 LN
local instance : Tbl := ⟨[]⟩
section
variable (ρ : FM.Env) (s : S)
@[simp] theorem run_enum (a : Ex) : FM.iEnum a ρ s = (a ρ s).bind fun x s1 => match asQ s1 x with
  | some xs => .ok ((xs.zipIdx).map fun p => .tup [.int p.2, p.1], still x xs) s1
  | none => .no := id rfl
@[simp] theorem run_zip (a b : Ex) : iZip a b ρ s = (a ρ s).bind fun x s1 => (b ρ s1).bind fun y s2 => match asQ s2 x, asQ s2 y with
  | some xs, some ys => .ok ((xs.zip ys).map fun p => .tup [p.1, p.2], fun s => still x xs s && still y ys s) s2
  | _, _ => .no := id rfl
@[simp] theorem run_zipL (a b : Ex) : fZipL a b ρ s = (a ρ s).bind fun x s1 => (b ρ s1).bind fun y s2 => match asL s2 x, asL s2 y with
  | some xs, some ys => .ok ((xs.zip ys).map fun p => .tup [p.1, p.2]) s2
  | _, _ => .no := id rfl
@[simp] theorem run_rev (a : Ex) : fRev a ρ s = (a ρ s).bind fun x s1 => match asL s1 x with
  | some xs => .ok xs.reverse s1
  | none => .no := id rfl
@[simp] theorem run_range2 (a b : Ex) : iRange2 a b ρ s = ((a ρ s).bind fun x s1 => (b ρ s1).bind fun y s2 => (match x, y with
  | .int m, .int n => if -(2 ^ 60) < m ∧ m < 2 ^ 60 ∧ -(2 ^ 60) < n ∧ n < 2 ^ 60 ∧ n - m ≤ sizeLine then .ok (rangeV m (n - m).toNat, fun _ => true) s2 else .no
  | _, _ => .no : R (List Val × (S → Bool)))) := id rfl
@[simp] theorem run_isi (f : Val → Option Bool) (a : Ex) : eIsi f a ρ s = (a ρ s).bind fun v s1 => ofO ((f v).map .bl) s1 := id rfl
@[simp] theorem run_astar (a : Ex) (r : Ax) : aStar a r ρ s = (a ρ s).bind fun x s1 => (ofO (asQ s1 x) s1).bind fun xs s2 => (r ρ s2).bind fun ys s3 => .ok (xs ++ ys) s3 := id rfl
@[simp] theorem run_tupS (a : Ax) : eTupS a ρ s = (a ρ s).bind fun xs s1 => if xs.length ≤ sizeLine then .ok (.tup xs) s1 else .no := id rfl
@[simp] theorem run_par3 (i j l : Nat) (a b c : Ex) : sPar3 i j l a b c ρ s = (a ρ s).seq fun x s1 => (b ρ s1).seq fun y s2 => (c ρ s2).seq fun z s3 => .nx (((ρ.set i (some x)).set j (some y)).set l (some z)) s3 := id rfl
end
theorem vzip : ∀ (a b : List Int), ((vi a).zip (vi b)).map (fun p => Val.tup [p.1, p.2]) = (a.zip b).map fun q => Val.tup [.int q.1, .int q.2]
  | [], _ => rfl
  | _ :: _, [] => rfl
  | x :: a, y :: b => by simp [vzip a b]
theorem venum : ∀ (a : List Int) (k : Nat), ((vi a).zipIdx k).map (fun p => Val.tup [.int p.2, p.1]) = (a.zipIdx k).map fun q => Val.tup [.int q.2, .int q.1]
  | [], _ => rfl
  | x :: a, k => by simp [List.zipIdx_cons, venum a (k + 1)]
/-- a house -/
def hv (p : Int) (n : Nat) : Val := .tup [.int p, .int n]
/-- a sum, a row -/
def tv (v : List Int) : Val := .tup (vi v)
def rv (r : List Int × Int) : Val := .tup [tv r.1, .int r.2]
@[simp] theorem hv0 (s : S) (p : Int) (n : Nat) : opIx s (hv p n) (.int 0) = some (.int p) := rfl
@[simp] theorem hv1 (s : S) (p : Int) (n : Nat) : opIx s (hv p n) (.int 1) = some (.int n) := rfl
@[simp] theorem rv0 (s : S) (r : List Int × Int) : opIx s (rv r) (.int 0) = some (tv r.1) := rfl
@[simp] theorem rv1 (s : S) (r : List Int × Int) : opIx s (rv r) (.int 1) = some (.int r.2) := rfl
@[simp] theorem pure_hv (p : Int) (n : Nat) : FM.pure (hv p n) = true := by simp [hv, FM.pure, pureAll]
@[simp] theorem pure_tv (v : List Int) : FM.pure (tv v) = true := by simp [tv, FM.pure]
@[simp] theorem pure_rv (r : List Int × Int) : FM.pure (rv r) = true := by simp [rv, FM.pure, pureAll]
@[simp] theorem pure_int (i : Int) : FM.pure (.int i) = true := by simp [FM.pure]
@[simp] theorem pure_lvi (v : List Int) : FM.pure (.lst (vi v)) = true := by simp [FM.pure]
@[simp] theorem asQ_tv (s : S) (v : List Int) : asQ s (tv v) = some (vi v) := rfl
theorem pureAll_map {α : Type} (f : α → Val) (h : ∀ x, FM.pure (f x) = true) : ∀ l : List α, pureAll (l.map f) = true
  | [] => rfl
  | x :: l => by simp [pureAll, h x, pureAll_map f h l]
theorem ix_vi (s : S) {X : Val} {v : List Int} (h : asQ s X = some (vi v)) {i : Nat} (hi : i < v.length) : opIx s X (.int i) = some (.int (at0 v i)) := by
  simp only [opIx, h]
  rw [show FM.ixN (vi v).length (i : Int) = some i by simp [FM.ixN, hi]]
  show (vi v)[i]? = _
  rw [vi_get, List.getElem?_eq_getElem hi, at0_get hi]; rfl
theorem ix_map {α : Type} (s : S) {X : Val} {f : α → Val} {l : List α} (h : asQ s X = some (l.map f)) {i : Nat} {x : α} (hi : l[i]? = some x) : opIx s X (.int i) = some (f x) := by
  obtain ⟨hl, _⟩ := List.getElem?_eq_some_iff.mp hi
  simp only [opIx, h]
  rw [show FM.ixN (l.map f).length (i : Int) = some i by simp [FM.ixN, hl]]
  show (l.map f)[i]? = _
  rw [List.getElem?_map, hi]; rfl
theorem bSum_vi (s : S) (v : List Int) : bSum s [.lst (vi v)] = some (.int v.sum) := by simp [bSum, asL]
theorem opMul_sm {s : S} {i j : Int} (h : -(2 ^ 60) < j) (h' : j < 2 ^ 60) : opMul s (.int i) (.int j) = some (.int (i * j)) := opMul_r (by omega)
theorem opMul_sml {s : S} {i j : Int} (h : -(2 ^ 60) < i) (h' : i < 2 ^ 60) : opMul s (.int i) (.int j) = some (.int (i * j)) := opMul_l (by omega)
/-! ### what returns -/
theorem frz_ref {d n k : Nat} {fr : List Cell} {xs : List Val} (e : fr[n]? = some (.lst xs)) (h : pureAll xs = true) : frz d fr (k + 1) (.ref d n) = some (.lst xs) := by
  have hb : below d (.ref d n) = false := by simp [below]
  unfold frz
  rw [if_neg (by rw [hb]; exact Bool.false_ne_true)]
  simp only [e, if_true]
  have : ∀ ys : List Val, pureAll ys = true → ys.mapM (frz d fr k) = some ys := fun ys hy => by
    induction ys with
    | nil => rfl
    | cons y ys ih =>
      unfold pureAll at hy
      simp only [Bool.and_eq_true] at hy
      simp [List.mapM_cons, frz_below (below_of_pure d y hy.1), ih hy.2]
  rw [this xs h]; rfl
theorem frz_pure {d k : Nat} {fr : List Cell} {v : Val} (h : FM.pure v = true) : frz d fr k v = some v := frz_below (below_of_pure d v h)
theorem retOf_t2 {d : Nat} {fr : List Cell} {u v u' v' : Val} (hb : below d (.tup [u, v]) = false) (h1 : frz d fr 7 u = some u') (h2 : frz d fr 7 v = some v') : retOf d fr (.tup [u, v]) = some (.val (.tup [u', v'])) := by
  unfold retOf
  show (frz d fr 8 (.tup [u, v])).map Ret.val = _
  unfold frz
  rw [if_neg (by rw [hb]; exact Bool.false_ne_true)]
  simp [List.mapM_cons, h1, h2]
theorem rep_vi : ∀ n : Nat, (List.replicate n [Val.int 0]).flatten = vi (List.replicate n 0)
  | 0 => rfl
  | n + 1 => by rw [List.replicate_succ, List.flatten_cons, rep_vi n, List.replicate_succ]; rfl
@[simp] theorem vi_rep (n : Nat) (x : Int) : vi (List.replicate n x) = List.replicate n (.int x) := by simp [vi]
theorem run_zeros {e : Ex} {ρ : FM.Env} {s : S} {L : Nat} (h : e ρ s = .ok (.int L) s) (hL : L < 2000) : fMul (eDead (fLst (aCons (eC (.int 0)) aNil))) e ρ s = .ok (List.replicate L (.int 0)) s := by
  rw [run_mul]
  show ((e ρ s).bind fun y s2 => match asLn s2 (.lst [.int 0]), y with
        | some xs, Val.int j => if -(2 ^ 63) ≤ j ∧ j < 2 ^ 63 ∧ xs.length * j.toNat ≤ sizeLine then R.ok (List.replicate j.toNat xs).flatten s2 else R.no
        | _, _ => R.no) = _
  rw [h, bind_ok]
  have c : -(2 ^ 63) ≤ (L : Int) ∧ (L : Int) < 2 ^ 63 ∧ [Val.int 0].length * (L : Int).toNat ≤ sizeLine := by
    refine ⟨by omega, by omega, ?_⟩
    rw [Int.toNat_natCast, sizeLine_eq]
    show 1 * L ≤ _
    omega
  show (if -(2 ^ 63) ≤ (L : Int) ∧ (L : Int) < 2 ^ 63 ∧ [Val.int 0].length * (L : Int).toNat ≤ sizeLine then R.ok (List.replicate (L : Int).toNat [Val.int 0]).flatten s else .no) = _
  rw [if_pos c, Int.toNat_natCast, rep_vi, vi_rep]
/-- x.append(v), x the top frame's -/
theorem app_top {fr : List Cell} {s : S} {f n : Nat} {xs : List Val} {v : Val} (hf : f = s.length) (h : fr[n]? = some (.lst xs)) (hl : xs.length < 100000) :
    chg (fr :: s) (.ref f n) (cAppend (fr :: s) [v]) [v] = .ok .non (fr.set n (.lst (xs ++ [v])) :: s) := by
  subst hf
  have c : cAppend (fr :: s) [v] xs = some (xs ++ [v]) := by
    show (if xs.length < sizeLine then some (xs ++ [v]) else none) = _
    rw [if_pos (by rw [sizeLine_eq]; omega)]
  have e : lk (fr :: s) s.length n = some (.lst xs) := by rw [lk_top]; exact h
  simp only [chg, e, c]
  rw [if_pos (.inl rfl), up_top]
theorem eFn_of {f : Fn} {a : Ax} {ρ : FM.Env} {s s1 s2 : S} {xs ys : List Val} (h : a ρ s = .ok xs s1) (hf : f xs s1 = .ok (.cell (.lst ys)) s2) : eFn f a ρ s = .ok (.lst ys) s2 := by rw [run_fn, h, bind_ok, hf]; rfl
theorem aCons_of {e : Ex} {r : Ax} {ρ : FM.Env} {s s1 s2 : S} {x : Val} {xs : List Val} (h : e ρ s = .ok x s1) (h2 : r ρ s1 = .ok xs s2) : aCons e r ρ s = .ok (x :: xs) s2 := by rw [run_acons, h, bind_ok, h2]; rfl
theorem eTup_of {a : Ax} {ρ : FM.Env} {s s1 : S} {xs : List Val} (h : a ρ s = .ok xs s1) : eTup a ρ s = .ok (.tup xs) s1 := by rw [run_tup, h]; rfl
theorem eDead_of {f : Fx} {ρ : FM.Env} {s s1 : S} {xs : List Val} (h : f ρ s = .ok xs s1) : eDead f ρ s = .ok (.lst xs) s1 := by rw [run_dead, h]; rfl
/-- x.append(e) -/
theorem append_stm {e : Ex} {ρ : FM.Env} {fr : List Cell} {s s' : S} {i n : Nat} {xs : List Val} {v : Val} (hi : ρ[i]? = some (some (.ref s.length n))) (hl' : s'.length = s.length) (he : e ρ (fr :: s) = .ok v (fr :: s')) (hn : fr[n]? = some (.lst xs)) (hl : xs.length < 100000) :
    sExpr (eChg cAppend (eVar i) (aCons e aNil)) ρ (fr :: s) = .nx ρ (fr.set n (.lst (xs ++ [v])) :: s') := by
  have ea : aCons e aNil ρ (fr :: s) = .ok [v] (fr :: s') := aCons_of he rfl
  have ev : eVar i ρ (fr :: s) = .ok (.ref s.length n) (fr :: s) := by rw [run_var, hi]
  have el : isL (fr :: s) (.ref s.length n) = true := by unfold isL; simp only [asL, lk_top, hn]; rfl
  rw [run_expr, run_chg, ev, bind_ok, el, if_pos rfl, ea, bind_ok, app_top hl'.symm hn hl]
  rfl
theorem fAdd_of {a b : Ex} {ρ : FM.Env} {s s1 s2 : S} {xs ys : List Val} (h : a ρ s = .ok (.lst xs) s1) (h2 : b ρ s1 = .ok (.lst ys) s2) (hl : xs.length + ys.length < 100000) : fAdd a b ρ s = .ok (xs ++ ys) s2 := by
  rw [run_add, h, bind_ok, h2, bind_ok]
  show (if xs.length + ys.length ≤ sizeLine then R.ok (xs ++ ys) s2 else .no) = _
  rw [if_pos (by rw [sizeLine_eq]; omega)]
theorem fSl_from {a : Ex} {ρ : FM.Env} {s s1 : S} {X : Val} {v : List Int} {lo : Ox} {n : Nat} (h : a ρ s = .ok X s1) (hX : asL s1 X = some (vi v)) (hlo : lo ρ s1 = .ok (some (n : Int)) s1) (hn : n ≤ v.length) : fSl a lo oNone ρ s = .ok (vi (v.drop n)) s1 := by
  rw [run_sl, h, bind_ok, hlo, bind_ok, run_onone, bind_ok, hX]
  have c : cutL (vi v) (some (n : Int)) none = vi (v.drop n) := by
    unfold cutL FM.sIx
    simp only [vi_len]
    rw [if_neg (by omega), Int.toNat_natCast, Nat.min_eq_left hn]
    unfold vi
    rw [← List.map_drop, List.take_of_length_le (by simp)]
  simp only [c]
theorem cut_to (v : List Int) {n : Nat} (hn : n ≤ v.length) : cutL (vi v) none (some (n : Int)) = vi (v.take n) := by
  unfold cutL FM.sIx
  simp only [vi_len, List.drop_zero, Nat.sub_zero]
  rw [if_neg (by omega), Int.toNat_natCast, Nat.min_eq_left hn]
  unfold vi
  rw [List.map_take]
theorem cut_from (v : List Int) {n : Nat} (hn : n ≤ v.length) : cutL (vi v) (some (n : Int)) none = vi (v.drop n) := by
  unfold cutL FM.sIx
  simp only [vi_len]
  rw [if_neg (by omega), Int.toNat_natCast, Nat.min_eq_left hn]
  unfold vi
  rw [← List.map_drop, List.take_of_length_le (by simp)]
theorem sAsg_of {e : Ex} {ρ : FM.Env} {s s1 : S} {v : Val} {i : Nat} (h : e ρ s = .ok v s1) : sAsg e (FM.gName i) ρ s = .nx (ρ.set i (some v)) s1 := by rw [run_asg, h]; rfl
theorem sRet_of {e : Ex} {ρ : FM.Env} {s s1 : S} {v : Val} (h : e ρ s = .ok v s1) : sRet e ρ s = .rt v s1 := by rw [run_ret, h]; rfl
theorem sFor_of {it : Ix} {g : Gx} {b : Sx} {ρ : FM.Env} {s s1 : S} {q : List Val × (S → Bool)} (h : it ρ s = .ok q s1) : sFor it g b ρ s = forL q.2 g b q.1 ρ s1 := by rw [run_for, h]; rfl
theorem iSeq_of {a : Ex} {ρ : FM.Env} {s s1 : S} {x : Val} {xs : List Val} (h : a ρ s = .ok x s1) (hx : asQ s1 x = some xs) : iSeq a ρ s = .ok (xs, still x xs) s1 := by
  show (a ρ s).bind _ = _
  rw [h, bind_ok, hx]
theorem fList_of {a : Ex} {ρ : FM.Env} {s s1 : S} {x : Val} {xs : List Val} (h : a ρ s = .ok x s1) (hx : asQ s1 x = some xs) : fList a ρ s = .ok xs s1 := by
  show (a ρ s).bind _ = _
  rw [h, bind_ok, hx]
theorem eOp_of {f : S → Val → Val → Option Val} {a b : Ex} {ρ : FM.Env} {s s1 s2 : S} {x y z : Val} (h : a ρ s = .ok x s1) (h2 : b ρ s1 = .ok y s2) (hz : f s2 x y = some z) : eOp f a b ρ s = .ok z s2 := by rw [run_op, h, bind_ok, h2, bind_ok, hz]; rfl
theorem eFn_val {f : Fn} {a : Ax} {ρ : FM.Env} {s s1 s2 : S} {xs : List Val} {v : Val} (h : a ρ s = .ok xs s1) (hf : f xs s1 = .ok (.val v) s2) : eFn f a ρ s = .ok v s2 := by rw [run_fn, h, bind_ok, hf]; rfl
theorem sIf_of {c : Tx} {a b : Sx} {ρ : FM.Env} {s s1 : S} {t : Bool} (h : c ρ s = .ok t s1) : sIf c a b ρ s = if t = true then a ρ s1 else b ρ s1 := by rw [run_if, h]; rfl
theorem tVal_of {a : Ex} {ρ : FM.Env} {s s1 : S} {t : Bool} (h : a ρ s = .ok (.bl t) s1) : tVal a ρ s = .ok t s1 := by rw [run_tval, h]; rfl
theorem eTupleF_of {f : Fx} {ρ : FM.Env} {s s1 : S} {xs : List Val} (h : f ρ s = .ok xs s1) : eTupleF f ρ s = .ok (.tup xs) s1 := by
  show (f ρ s).bind _ = _
  rw [h]; rfl
theorem aStar_of {a : Ex} {r : Ax} {ρ : FM.Env} {s s1 s2 : S} {x : Val} {xs ys : List Val} (h : a ρ s = .ok x s1) (hx : asQ s1 x = some xs) (h2 : r ρ s1 = .ok ys s2) : aStar a r ρ s = .ok (xs ++ ys) s2 := by rw [run_astar, h, bind_ok, hx, ofO_some, bind_ok, h2, bind_ok]
theorem eTupS_of {a : Ax} {ρ : FM.Env} {s s1 : S} {xs : List Val} (h : a ρ s = .ok xs s1) (hl : xs.length < 100000) : eTupS a ρ s = .ok (.tup xs) s1 := by rw [run_tupS, h, bind_ok, if_pos (by rw [sizeLine_eq]; omega)]
theorem eSlT_of {a : Ex} {lo hi : Ox} {ρ : FM.Env} {s s1 : S} {xs : List Val} {l h : Option Int} (e : a ρ s = .ok (.tup xs) s1) (el : lo ρ s1 = .ok l s1) (eh : hi ρ s1 = .ok h s1) : eSlT a lo hi ρ s = .ok (.tup (cutL xs l h)) s1 := by rw [run_slT, e, bind_ok, el, bind_ok, eh, bind_ok]
theorem set_top {fr : List Cell} {s : S} {n : Nat} {w : List Int} {j : Nat} (v : Int) (h : fr[n]? = some (.lst (vi w))) (hj : j < w.length) : setL (fr :: s) (.ref s.length n) (.int j) (.int v) = some (fr.set n (.lst (vi (w.set j v))) :: s) := by
  have e : lk (fr :: s) s.length n = some (.lst (vi w)) := by rw [lk_top]; exact h
  simp only [setL, e]
  rw [show FM.ixN (vi w).length (j : Int) = some j by simp [FM.ixN, hj]]
  simp only [List.length_cons, true_or, if_true, up_top]
  have : (vi w).set j (.int v) = vi (w.set j v) := by simp [vi, List.map_set]
  rw [this]
theorem sSub_of {o i e : Ex} {ρ : FM.Env} {s s1 s2 s3 s4 : S} {x y v : Val} (he : e ρ s = .ok v s1) (ho : o ρ s1 = .ok x s2) (hi : i ρ s2 = .ok y s3) (h : setL s3 x y v = some s4) : sSub o i e ρ s = .nx ρ s4 := by rw [run_sub, he, seq_ok, ho, seq_ok, hi, seq_ok, h]
theorem eAnd_of {a b : Ex} {ρ : FM.Env} {s s1 : S} {x y : Bool} (ha : a ρ s = .ok (.bl x) s1) (hb : b ρ s1 = .ok (.bl y) s1) : eAnd a b ρ s = .ok (.bl (x && y)) s1 := by
  rw [run_and, ha, bind_ok]
  cases x with
  | true => show b ρ s1 = _; rw [hb]; rfl
  | false => rfl
theorem mkFn_ret {n np : Nat} {body : Sx} {args : List Val} {ρ : FM.Env} {s s' : S} {fr : List Cell} {v : Val} {r : Ret} (h : args.length = np) (he : args.map some ++ List.replicate (n - np) none = ρ) (hb : body ρ ([] :: s) = .rt v (fr :: s')) (hr : retOf s'.length fr v = some r) : mkFn n np body args s = .ok r s' := by
  unfold mkFn
  rw [if_pos h, he, hb]
  show FM.finish v (fr :: s') = _
  rw [finish_cons, hr]; rfl
theorem append_at {e : Ex} {ρ : FM.Env} {fr : List Cell} {s s' : S} {f i n : Nat} {xs : List Val} {v : Val} (hf : f = s.length) (hi : ρ[i]? = some (some (.ref f n))) (hl' : s'.length = s.length) (he : e ρ (fr :: s) = .ok v (fr :: s')) (hn : fr[n]? = some (.lst xs)) (hl : xs.length < 100000) :
    sExpr (eChg cAppend (eVar i) (aCons e aNil)) ρ (fr :: s) = .nx ρ (fr.set n (.lst (xs ++ [v])) :: s') := by
  subst hf
  exact append_stm hi hl' he hn hl
theorem sPar_of {i j : Nat} {a b : Ex} {ρ : FM.Env} {s s1 s2 : S} {x y : Val} (h1 : a ρ s = .ok x s1) (h2 : b ρ s1 = .ok y s2) : sPar i j a b ρ s = .nx ((ρ.set i (some x)).set j (some y)) s2 := by rw [run_par, h1, seq_ok, h2, seq_ok]
theorem bTuple_of {a : Ex} {ρ : FM.Env} {s s1 : S} {x : Val} {xs : List Val} (h : a ρ s = .ok x s1) (hx : asQ s1 x = some xs) : eCall bTuple (aCons a aNil) ρ s = .ok (.tup xs) s1 := by
  rw [run_call, aCons_of (r := aNil) h rfl, bind_ok]
  show ofO ((asQ s1 x).map Val.tup) s1 = _
  rw [hx]; rfl
theorem fLst_of {a : Ax} {ρ : FM.Env} {s s1 : S} {xs : List Val} (h : a ρ s = .ok xs s1) : eDead (fLst a) ρ s = .ok (.lst xs) s1 := eDead_of (f := fLst a) h
theorem live_lst {a : Ax} {ρ : FM.Env} {s s' : S} {fr : List Cell} {xs : List Val} (h : a ρ s = .ok xs (fr :: s')) : eLive (fLst a) ρ s = .ok (.ref s'.length fr.length) ((fr ++ [.lst xs]) :: s') := by
  rw [run_live]
  show (a ρ s).bind _ = _
  rw [h]; rfl
theorem rg0 (n : Nat) : rangeV 0 n = (List.range n).map fun (i : Nat) => Val.int (i : Int) := by
  unfold rangeV
  exact List.map_congr_left fun i _ => by simp
/-- [i for i in range(n) if x[i] != 0] -/
theorem places_run {ρ : FM.Env} {s : S} {n j i : Nat} {w : List Int} {a : Ex} (ha : a ρ s = .ok (.int n) s) (hi : ρ[i]? = some (some (.lst (vi w)))) (hij : i ≠ j) (hj : j < ρ.length) (hn : n ≤ w.length) (hn2 : n < 1000) :
    fComp (iRange1 a) [j] (FM.gName j) (tVal (eOp opNe (eOp opIx (eVar i) (eVar j)) (eC (.int 0)))) (eVar j) ρ s = .ok (((List.range n).filter fun k => decide (at0 w k ≠ 0)).map fun (k : Nat) => Val.int (k : Int)) s := by
  have c : -(2 ^ 60) < (n : Int) ∧ (n : Int) ≤ sizeLine := by rw [sizeLine_eq]; omega
  have it : iRange1 a ρ s = .ok (rangeV 0 n, fun _ => true) s := by
    show (a ρ s).bind _ = _
    rw [ha, bind_ok]
    show (if -(2 ^ 60) < (n : Int) ∧ (n : Int) ≤ sizeLine then R.ok (rangeV 0 (n : Int).toNat, fun _ => true) s else .no) = _
    rw [if_pos c, Int.toNat_natCast]
  show (iRange1 a ρ s).bind _ = _
  rw [it, bind_ok, rg0]
  have comp := compL_pick (keep := fun _ => true) (g := FM.gName j) (t := tVal (eOp opNe (eOp opIx (eVar i) (eVar j)) (eC (.int 0)))) (e := eVar j) (ρ := FM.wipe ρ [j]) (s := s) (fun k : Nat => Val.int (k : Int)) (fun k => decide (at0 w k ≠ 0)) (fun k : Nat => Val.int (k : Int)) rfl (List.range n) fun k hk => by
    have hk := List.mem_range.mp hk
    have ix := ix_vi s (X := .lst (vi w)) rfl (i := k) (by omega)
    have e1 : ((ρ.set j none).set j (some (.int k)))[i]? = some (some (.lst (vi w))) := by
      rw [List.getElem?_set_ne (Ne.symm hij), List.getElem?_set_ne (Ne.symm hij), hi]
    have e2 : ((ρ.set j none).set j (some (Val.int k)))[j]? = some (some (.int k)) := List.getElem?_set_self (by simpa using hj)
    refine ⟨(ρ.set j none).set j (some (.int k)), rfl, ?_, fun _ => by rw [run_var, e2]⟩
    have g1 : eVar i ((ρ.set j none).set j (some (.int k))) s = .ok (.lst (vi w)) s := by rw [run_var, e1]
    have g2 : eVar j ((ρ.set j none).set j (some (Val.int k))) s = .ok (.int k) s := by rw [run_var, e2]
    exact tVal_of (eOp_of (eOp_of g1 g2 ix) rfl (opNe_int _ _ _))
  rw [comp]; rfl
end FM

set_option autoImplicit false
/-! what can be shown: sums and None -/
namespace FM
open PySem PySem.Spec PyProof.Rows L2 LN
local instance : Tbl := ⟨[]⟩
theorem short_int {i : Int} (h0 : 0 ≤ i) (h1 : i < 7) : (PyData.int i).leavesShort 8 = true := by
  have : i = 0 ∨ i = 1 ∨ i = 2 ∨ i = 3 ∨ i = 4 ∨ i = 5 ∨ i = 6 := by omega
  rcases this with e | e | e | e | e | e | e <;> subst e <;> decide +kernel
theorem show_int {i : Int} (h0 : 0 ≤ i) (h1 : i < 7) : (PyData.int i).showable = true := by
  have : i = 0 ∨ i = 1 ∨ i = 2 ∨ i = 3 ∨ i = 4 ∨ i = 5 ∨ i = 6 := by omega
  rcases this with e | e | e | e | e | e | e <;> subst e <;> decide +kernel
theorem short_all : ∀ {l : List Int}, InR 7 l → PyData.leavesShortAll 8 (toDs (vi l)) = true
  | [], _ => by simp [toDs, PyData.leavesShortAll]
  | x :: l, h => by
    obtain ⟨h0, h1⟩ := h x List.mem_cons_self
    simp only [vi_cons, toDs, toD, PyData.leavesShortAll, Bool.and_eq_true]
    exact ⟨short_int h0 h1, short_all fun y hy => h y (List.mem_cons_of_mem _ hy)⟩
theorem show_all : ∀ {l : List Int}, InR 7 l → PyData.showableAll (toDs (vi l)) = true
  | [], _ => by simp [toDs, PyData.showableAll]
  | x :: l, h => by
    obtain ⟨h0, h1⟩ := h x List.mem_cons_self
    simp only [vi_cons, toDs, toD, PyData.showableAll, Bool.and_eq_true]
    exact ⟨show_int h0 h1, show_all fun y hy => h y (List.mem_cons_of_mem _ hy)⟩
theorem bulk_all : ∀ (l : List Int), PyData.bulkAll (toDs (vi l)) = l.length
  | [] => by simp [toDs, PyData.bulkAll]
  | x :: l => by simp [toDs, toD, PyData.bulkAll, PyData.bulk, bulk_all l]; omega
theorem depth_all : ∀ (l : List Int), PyData.depthAll (toDs (vi l)) ≤ 1
  | [] => by simp [toDs, PyData.depthAll]
  | x :: l => by have := depth_all l; simp [toDs, toD, PyData.depthAll, PyData.depth]; omega
/-- None or a tuple of small ints -/
def Nice (v : Val) : Prop := v = .non ∨ ∃ l : List Int, v = tv l ∧ InR 7 l ∧ l.length ≤ 10000
theorem Nice.facts {v : Val} (h : Nice v) : FM.pure v = true ∧ (toD v).showable = true ∧ (toD v).leavesShort 8 = true ∧ (toD v).bulk ≤ 10000 ∧ (toD v).depth ≤ 5 := by
  rcases h with e | ⟨l, e, h1, h2⟩
  · subst e; exact ⟨rfl, by simp [toD, PyData.showable], by simp [toD, PyData.leavesShort], by simp [toD, PyData.bulk], by simp [toD, PyData.depth]⟩
  · subst e
    refine ⟨pure_tv l, ?_, ?_, ?_, ?_⟩
    · simp only [tv, toD, PyData.showable]; exact show_all h1
    · simp only [tv, toD, PyData.leavesShort]; exact short_all h1
    · simp only [tv, toD, PyData.bulk, bulk_all]; exact h2
    · have := depth_all l; simp only [tv, toD, PyData.depth]; omega
theorem nice3 {a b c : Val} (ha : Nice a) (hb : Nice b) (hc : Nice c) : FM.pure (.lst [a, b, c]) = true ∧ (toD (.lst [a, b, c])).showable = true ∧ (toD (.lst [a, b, c])).shown.length ≤ sizeLine ∧ (toD (.lst [a, b, c])).depth ≤ 64 := by
  obtain ⟨a1, a2, a3, a4, a5⟩ := ha.facts
  obtain ⟨b1, b2, b3, b4, b5⟩ := hb.facts
  obtain ⟨c1, c2, c3, c4, c5⟩ := hc.facts
  refine ⟨by simp [FM.pure, pureAll, a1, b1, c1], by simp [toD, toDs, PyData.showable, PyData.showableAll, a2, b2, c2], ?_, ?_⟩
  · refine PyData.shown_fits_bulk (B := 8) (by decide) (by decide) (by simp [toD, toDs, PyData.leavesShort, PyData.leavesShortAll, a3, b3, c3]) ?_
    simp [toD, toDs, PyData.bulk, PyData.bulkAll]; omega
  · simp [toD, toDs, PyData.depth, PyData.depthAll]; omega
end FM

set_option autoImplicit false
/-! what can be shown: nested tuples and lists -/
namespace FM
open PySem PySem.Spec PyProof.Rows L2 LN
local instance : Tbl := ⟨[]⟩
/-- of at most so many items and so deep -/
structure OkV (b d : Nat) (v : Val) : Prop where
  pur : FM.pure v = true
  shw : (toD v).showable = true
  sht : (toD v).leavesShort 12 = true
  blk : (toD v).bulk ≤ b
  dep : (toD v).depth ≤ d
structure OkA (b d : Nat) (l : List Val) : Prop where
  pur : pureAll l = true
  shw : PyData.showableAll (toDs l) = true
  sht : PyData.leavesShortAll 12 (toDs l) = true
  blk : PyData.bulkAll (toDs l) ≤ b
  dep : PyData.depthAll (toDs l) ≤ d
theorem okA_nil (d : Nat) : OkA 0 d [] := ⟨rfl, by simp [toDs, PyData.showableAll], by simp [toDs, PyData.leavesShortAll], by simp [toDs, PyData.bulkAll], by simp [toDs, PyData.depthAll]⟩
theorem OkV.cons {b c d : Nat} {v : Val} {l : List Val} (h : OkV b d v) (k : OkA c d l) : OkA (b + 1 + c) d (v :: l) := by
  refine ⟨by simp [pureAll, h.pur, k.pur], by simp [toDs, PyData.showableAll, h.shw, k.shw], by simp [toDs, PyData.leavesShortAll, h.sht, k.sht], ?_, ?_⟩
  · have := h.blk; have := k.blk; simp only [toDs, PyData.bulkAll]; omega
  · have := h.dep; have := k.dep; simp only [toDs, PyData.depthAll]; omega
theorem OkA.tup {b d : Nat} {l : List Val} (k : OkA b d l) : OkV b (d + 1) (.tup l) := by
  refine ⟨by simp [FM.pure, k.pur], by simp [toD, PyData.showable, k.shw], by simp [toD, PyData.leavesShort, k.sht], ?_, ?_⟩
  · have := k.blk; simpa only [toD, PyData.bulk] using this
  · have := k.dep; simp only [toD, PyData.depth]; omega
theorem OkA.lst {b d : Nat} {l : List Val} (k : OkA b d l) : OkV b (d + 1) (.lst l) := by
  refine ⟨by simp [FM.pure, k.pur], by simp [toD, PyData.showable, k.shw], by simp [toD, PyData.leavesShort, k.sht], ?_, ?_⟩
  · have := k.blk; simpa only [toD, PyData.bulk] using this
  · have := k.dep; simp only [toD, PyData.depth]; omega
theorem okV_intB {i : Int} (h : i.natAbs < 10 ^ 10) (d : Nat) : OkV 0 d (.int i) := by
  refine ⟨rfl, ?_, ?_, by simp [toD, PyData.bulk], by simp [toD, PyData.depth]⟩
  · simp only [toD, PyData.showable, decide_eq_true_eq]
    by_cases z : i.natAbs = 0
    · rw [z]; decide
    · exact (Nat.log2_lt z).mpr (Nat.lt_trans h (by decide +kernel))
  · have := int_text_length_le10 (a := i) (k := 10) (by decide) h
    simp only [toD, PyData.leavesShort, PyData.shown]
    refine decide_eq_true ?_
    show (Str.ofString (toString i)).length ≤ _
    rw [PySem.ofString_length]; omega
theorem okV_int {i : Int} (h0 : 0 ≤ i) (h1 : i < 7) (d : Nat) : OkV 0 d (.int i) := okV_intB (by omega) d
theorem okV_non (d : Nat) : OkV 0 d .non := ⟨rfl, by simp [toD, PyData.showable], by simp [toD, PyData.leavesShort], by simp [toD, PyData.bulk], by simp [toD, PyData.depth]⟩
theorem okV_bl (b : Bool) (d : Nat) : OkV 0 d (.bl b) := ⟨rfl, by simp [toD, PyData.showable], by simp [toD, PyData.leavesShort], by simp [toD, PyData.bulk], by simp [toD, PyData.depth]⟩
theorem OkV.mono {b d b' d' : Nat} {v : Val} (h : OkV b d v) (hb : b ≤ b') (hd : d ≤ d') : OkV b' d' v := ⟨h.pur, h.shw, h.sht, by have := h.blk; omega, by have := h.dep; omega⟩
theorem OkA.mono {b d b' d' : Nat} {v : List Val} (h : OkA b d v) (hb : b ≤ b') (hd : d ≤ d') : OkA b' d' v := ⟨h.pur, h.shw, h.sht, by have := h.blk; omega, by have := h.dep; omega⟩
theorem okA_map {α : Type} {b d : Nat} (f : α → Val) : ∀ (l : List α), (∀ x ∈ l, OkV b d (f x)) → OkA ((b + 1) * l.length) d (l.map f)
  | [], _ => by simpa using okA_nil d
  | x :: l, h => by
    have := (h x List.mem_cons_self).cons (okA_map f l fun y hy => h y (List.mem_cons_of_mem _ hy))
    refine this.mono ?_ (Nat.le_refl _)
    rw [List.length_cons, Nat.mul_add]; omega
theorem okV_tv {v : List Int} (h : InR 7 v) : OkV v.length 1 (tv v) := by
  have := (okA_map (b := 0) (d := 0) Val.int v fun x hx => okV_int (h x hx).1 (h x hx).2 0).tup
  rw [Nat.zero_add, Nat.one_mul] at this
  exact this
theorem OkV.fits {b d : Nat} {v : Val} (h : OkV b d v) (hb : b ≤ 30000) : (toD v).shown.length ≤ sizeLine := by
  have := h.blk
  exact PyData.shown_fits_bulk (B := 12) (by decide) (by decide) h.sht (by omega)
end FM

set_option autoImplicit false
/-! things that a call may only look at: known while it runs, forgotten behind it -/
namespace FM
open PySem PySem.Spec PyProof.Rows L2
variable [Tbl]
/-- nothing is said but that it is there -/
def triv : HO := .ext fun _ => True
abbrev Cold := List (Addr × Obj)
def cold (A : Cold) (H : Hp) : Hp := fun b => match A.lookup b with
  | some o => some (.frz o triv)
  | none => H b
def thaw (A : Cold) (H : Hp) : Hp := fun b => match A.lookup b with
  | some _ => none
  | none => H b
section
variable {A : Cold} {H H' : Hp} {b : Addr} {o : Obj}
theorem cold_in (e : A.lookup b = some o) : cold A H b = some (.frz o triv) := by unfold cold; rw [e]
theorem cold_out (e : A.lookup b = none) : cold A H b = H b := by unfold cold; rw [e]
theorem thaw_in (e : A.lookup b = some o) : thaw A H b = none := by unfold thaw; rw [e]
theorem thaw_out (e : A.lookup b = none) : thaw A H b = H b := by unfold thaw; rw [e]
/-- what A names is not in H; what A names is cold in H -/
def Fresh (A : Cold) (H : Hp) : Prop := ∀ b o, A.lookup b = some o → H b = none
def IsCold (A : Cold) (H : Hp) : Prop := ∀ b o, A.lookup b = some o → H b = some (.frz o triv)
theorem isCold_cold : IsCold A (cold A H) := fun _ _ e => cold_in e
theorem fresh_thaw : Fresh A (thaw A H) := fun _ _ e => thaw_in e
theorem Fresh.out (f : Fresh A H) {u : HO} (e : H b = some u) : A.lookup b = none := by
  cases q : A.lookup b with
  | none => rfl
  | some o => rw [f b o q] at e; cases e
theorem IsCold.out (f : IsCold A H) {u : HO} (e : H b = some u) (n : ∀ o, u ≠ .frz o triv) : A.lookup b = none := by
  cases q : A.lookup b with
  | none => rfl
  | some o =>
    rw [f b o q] at e
    exact absurd (Option.some.inj e).symm (n o)
theorem Fresh.cold (f : Fresh A H) {u : HO} (e : H b = some u) : cold A H b = some u := by rw [cold_out (f.out e)]; exact e
theorem IsCold.thaw (f : IsCold A H) {u : HO} (e : H b = some u) (n : ∀ o, u ≠ .frz o triv) : thaw A H b = some u := by rw [thaw_out (f.out e n)]; exact e
section
variable {P : Program} {w : World} {h h' : Heap} {fs : List Addr}
theorem hok_cold (x : HOk P w H h) (f : Fresh A H) (k : ∀ b o, A.lookup b = some o → h.get? b = some o) : HOk P w (FM.cold A H) h := fun b u e => by
  cases q : A.lookup b with
  | some o =>
    rw [cold_in q] at e
    cases e
    exact ⟨k b o q, trivial, ⟨o, k b o q⟩, fun _ _ _ _ => trivial⟩
  | none =>
    rw [cold_out q] at e
    exact (x b u e).stay (fun _ _ _ z => z) (fun c z => f.cold z) fun c xs z => f.cold z
theorem hok_thaw (x : HOk P w H h) (f : IsCold A H) : HOk P w (FM.thaw A H) h := fun b u e => by
  cases q : A.lookup b with
  | some o => rw [thaw_in q] at e; cases e
  | none =>
    rw [thaw_out q] at e
    exact (x b u e).stay (fun _ _ _ z => z) (fun c z => f.thaw z fun o y => by cases y) fun c xs z => f.thaw z fun o y => by cases y
theorem cold_at (x : HOk P w H h) (f : IsCold A H) (e : A.lookup b = some o) : h.get? b = some o := (x b _ (f b o e)).1
/-- behind a call that could look at A -/
theorem un_thaw (u : Un fs [] (FM.cold A H) H' h h') (f : Fresh A H) (k : ∀ b o, A.lookup b = some o → h.get? b = some o ∧ b ∉ fs) (x : HOk P w H' h') : Un fs [] H (FM.thaw A H') h h' := by
  have cc : IsCold A H' := fun b o e => u.frzs b o _ (cold_in e)
  refine ⟨fun b ob e n hf hx => ?_, fun b ob e n hf hx => ?_, fun b ob e n hx => ?_, u.there, fun b xs e => ?_, fun b ob v e => ?_, fun b ps e => ?_⟩
  · cases q : A.lookup b with
    | some o =>
      have e2 := (k b o q).1
      rw [e] at e2
      cases e2
      exact cold_at x cc q
    | none => exact u.keep b ob e (by rw [cold_out q]; exact n) hf hx
  · cases q : A.lookup b with
    | some o => exact absurd hf (k b o q).2
    | none => exact u.slot b ob e (by rw [cold_out q]; exact n) hf hx
  · cases q : A.lookup b with
    | some o => exact thaw_in q
    | none => rw [thaw_out q]; exact u.free b ob e (by rw [cold_out q]; exact n) hx
  · rw [thaw_out (f.out e)]; exact u.tups b xs (f.cold e)
  · rw [thaw_out (f.out e)]; exact u.frzs b ob v (f.cold e)
  · rw [thaw_out (f.out e)]; exact u.tbls b ps (f.cold e)
/-- behind a call for which A was forgotten -/
theorem un_cold (u : Un fs [] (FM.thaw A H) H' h h') (f : IsCold A H) (k : ∀ b o, A.lookup b = some o → h.get? b = some o ∧ b ∉ fs) : Un fs [] H (FM.cold A H') h h' ∧ (∀ b o, A.lookup b = some o → h'.get? b = some o) ∧ Fresh A H' := by
  have k2 : ∀ b o, A.lookup b = some o → h'.get? b = some o := fun b o e => u.keep b o (k b o e).1 (thaw_in e) (k b o e).2 (by simp)
  have f2 : Fresh A H' := fun b o e => u.free b o (k b o e).1 (thaw_in e) (by simp)
  have ne : ∀ b, H b = none → A.lookup b = none := fun b n => by
    cases q : A.lookup b with
    | none => rfl
    | some o => rw [f b o q] at n; cases n
  refine ⟨⟨fun b ob e n hf hx => u.keep b ob e (by rw [thaw_out (ne b n)]; exact n) hf hx, fun b ob e n hf hx => u.slot b ob e (by rw [thaw_out (ne b n)]; exact n) hf hx, fun b ob e n hx => ?_, u.there, fun b xs e => ?_, fun b ob v e => ?_, fun b ps e => ?_⟩, k2, f2⟩
  · rw [cold_out (ne b n)]; exact u.free b ob e (by rw [thaw_out (ne b n)]; exact n) hx
  · have q := f.out e fun o y => by cases y
    rw [cold_out q]; exact u.tups b xs (by rw [thaw_out q]; exact e)
  · cases q : A.lookup b with
    | some o =>
      rw [f b o q] at e
      cases e
      exact cold_in q
    | none => rw [cold_out q]; exact u.frzs b ob v (by rw [thaw_out q]; exact e)
  · have q := f.out e fun o y => by cases y
    rw [cold_out q]; exact u.tbls b ps (by rw [thaw_out q]; exact e)
end
section
variable {P : Program} {w : World} {K : PySem.W.Frag} {mg : PySem.Str → Option Value} {base : Heap} {R : Around} {outer : List PySem.Env} {s : Shared}
theorem env0_cold (x : Env0 P w K mg base R outer s H) (f : Fresh A H) (k : ∀ b o, A.lookup b = some o → s.heap.get? b = some o ∧ b ∉ frs outer ∧ base.get? b = none) : Env0 P w K mg base R outer s (FM.cold A H) := by
  refine ⟨x.frames, x.mod, fun b o e => ⟨(x.bs b o e).1, ?_⟩, x.bsz, x.funs, fun b hb => ?_, hok_cold x.hok f fun b o e => (k b o e).1, x.bare⟩
  · cases q : A.lookup b with
    | some ob => rw [(k b ob q).2.2] at e; cases e
    | none => rw [cold_out q]; exact (x.bs b o e).2
  · cases q : A.lookup b with
    | some ob => exact absurd hb (k b ob q).2.1
    | none => rw [cold_out q]; exact x.frf b hb
theorem env0_thaw (x : Env0 P w K mg base R outer s H) (f : IsCold A H) : Env0 P w K mg base R outer s (FM.thaw A H) := by
  refine ⟨x.frames, x.mod, fun b o e => ⟨(x.bs b o e).1, ?_⟩, x.bsz, x.funs, fun b hb => ?_, hok_thaw x.hok f, x.bare⟩
  · cases q : A.lookup b with
    | some ob => exact thaw_in q
    | none => rw [thaw_out q]; exact (x.bs b o e).2
  · cases q : A.lookup b with
    | some ob => exact thaw_in q
    | none => rw [thaw_out q]; exact x.frf b hb
end
/-! ### over the memory -/
section
variable {K : PySem.W.Frag} {μ μ' : Mu} {s s' : S}
theorem Mem.cold (m : Mem K H μ s) (f : Fresh A H) : Grow μ H μ (FM.cold A H) ∧ Mem K (FM.cold A H) μ s := by
  have up : ∀ b u, H b = some u → FM.cold A H b = some u := fun b u e => f.cold e
  have g : Grow μ H μ (FM.cold A H) := ⟨⟨[], exts_nil.symm, by simp⟩, fun _ h => .inr h, fun _ h => h, fun a o _ e _ => up a o e, fun fr hf a ha => let ⟨vs, e⟩ := m.live hf ha; ⟨_, up _ _ e⟩, fun a ha => by
    obtain ⟨vs, e⟩ := m.hd a ha
    rw [up _ _ e, e], fun a ps e => ⟨ps, up _ _ e⟩⟩
  exact ⟨g, m.grow g (fun fr hf a ha => by
    obtain ⟨vs, e⟩ := m.live hf ha
    rw [up _ _ e, e]) (m.tb.ext up)⟩
mutual
theorem Rep.thaw (f : IsCold A H) : ∀ (v : Val) (x : V), Rep K H μ v x → Rep K (FM.thaw A H) μ v x
  | .non, _, h => h
  | .bl _, _, h => h
  | .int _, _, h => h
  | .str _, _, h => h
  | .tup xs, x, h => by
    unfold Rep at h ⊢
    obtain ⟨a, vs, e, hq, hl, hr⟩ := h
    refine ⟨a, vs, e, ?_, hl, RepAll.thaw f xs vs hr⟩
    rcases hq with ⟨u, hq, tu⟩ | hq
    · refine .inl ⟨u, f.thaw hq fun o z => ?_, tu⟩
      obtain ⟨o', eu, _⟩ := tu
      rw [eu] at z
      unfold triv at z
      cases z
    · exact .inr hq
  | .lst xs, x, h => by
    unfold Rep at h ⊢
    obtain ⟨a, vs, e, hq, ho, hl, hr⟩ := h
    exact ⟨a, vs, e, f.thaw hq (fun o z => by cases z), ho, hl, RepAll.thaw f xs vs hr⟩
  | .scr xs, x, h => by
    unfold Rep at h ⊢
    obtain ⟨a, vs, e, hq, hl, hr⟩ := h
    refine ⟨a, vs, e, ?_, hl, RepAll.thaw f xs vs hr⟩
    rcases hq with ⟨hq | ⟨o, hq⟩, ho⟩ | hq
    · exact .inl ⟨.inl (f.thaw hq fun o z => by cases z), ho⟩
    · exact .inl ⟨.inr ⟨o, f.thaw hq fun o z => by unfold triv at z; cases z⟩, ho⟩
    · exact .inr hq
  | .dct _ _, _, h => by unfold Rep at h; exact h.elim
  | .ref f n, x, h => by unfold Rep at h ⊢; exact h
theorem RepAll.thaw (f : IsCold A H) : ∀ (v : List Val) (x : List V), RepAll K H μ v x → RepAll K (FM.thaw A H) μ v x
  | [], _, h => by unfold RepAll at h ⊢; exact h
  | v :: vs, x, h => by
    unfold RepAll at h ⊢
    obtain ⟨w, ws, e, h1, h2⟩ := h
    exact ⟨w, ws, e, Rep.thaw f v w h1, RepAll.thaw f vs ws h2⟩
end
theorem Mem.thaw (m : Mem K H μ s) (f : IsCold A H) : Mem K (FM.thaw A H) μ s := by
  refine ⟨m.shp, m.nd, m.sep, fun k n a c e1 e2 => ?_, m.bel, fun a ha => ?_, fun q hq => ?_⟩
  · have q := m.cel k n a c e1 e2
    cases c with
    | lst xs =>
      obtain ⟨vs, e, hl, hr⟩ := q
      exact ⟨vs, f.thaw e (fun o z => by cases z), hl, RepAll.thaw f _ _ hr⟩
    | dct _ _ => exact q.elim
  · obtain ⟨vs, e⟩ := m.hd a ha
    exact ⟨vs, f.thaw e fun o z => by cases z⟩
  · obtain ⟨ps, h1, h2, h3⟩ := m.tb q hq
    refine ⟨ps, f.thaw h1 (fun o z => by cases z), h2, fun pos cv hc => ?_⟩
    obtain ⟨c, e1, e2⟩ := h3 pos cv hc
    exact ⟨c, e1, f.thaw e2 fun o z => by unfold LamX.CodeO at z; cases z⟩
/-- a growth seen without A: A was cold while it went on -/
theorem Grow.thaw (m : Mem K H μ s) (f : Fresh A H) (g : Grow μ (FM.cold A H) μ' H') : IsCold A H' ∧ Grow μ H μ' (FM.thaw A H') := by
  obtain ⟨g0, m0⟩ := m.cold f
  have cc : IsCold A H' := fun b o e => g.kp b _ (m0.offT (cold_in e) fun _ z => by cases z) (cold_in e) fun _ z => by cases z
  have back : ∀ b u, H b = some u → ∀ {v}, H' b = some v → FM.thaw A H' b = some v := fun b u e v e' => by rw [thaw_out (f.out e)]; exact e'
  refine ⟨cc, ⟨?_, fun x hx => ?_, g.hs, fun a o ho e n => back a o e (g.kp a o ho (f.cold e) n), fun fr hf a ha => ?_, fun a ha => ?_, fun a ps e => ?_⟩⟩
  · obtain ⟨b, e, hb⟩ := g.ext
    exact ⟨b, e, fun x hx => g0.none (hb x hx)⟩
  · exact (g.hid x hx).imp (fun q => g0.none q) id
  · obtain ⟨o', e'⟩ := g.lv fr hf a ha
    obtain ⟨vs, e⟩ := m.live hf ha
    exact ⟨o', back a _ e e'⟩
  · obtain ⟨vs, e⟩ := m.hd a ha
    rw [thaw_out (f.out e), g.hk a ha, cold_out (f.out e)]
  · obtain ⟨qs, e'⟩ := g.tk a ps (f.cold e)
    exact ⟨qs, back a _ e e'⟩
/-- a growth while A was forgotten, seen with A cold before and behind -/
theorem Grow.cold (m : Mem K H μ s) (f : IsCold A H) (f' : Fresh A H') (m' : Mem K H' μ' s') (g : Grow μ (FM.thaw A H) μ' H') : Grow μ H μ' (FM.cold A H') := by
  have nl : ∀ (b : Addr) (vs : List V), H b = some (HO.lst vs) → A.lookup b = Option.none := fun b vs e => f.out e fun o z => by cases z
  refine ⟨?_, fun x hx => ?_, g.hs, fun a o ho e n => ?_, fun fr hf a ha => ?_, fun a ha => ?_, fun a ps e => ?_⟩
  · obtain ⟨b, e, hb⟩ := g.ext
    cases h0 : μ.fr with
    | nil => exact ⟨[], by rw [e, h0]; rfl, by simp⟩
    | cons fr r =>
      refine ⟨b, by rw [e, h0], fun x hx => ?_⟩
      have q := hb x hx
      cases el : A.lookup x with
      | none => rw [thaw_out el] at q; exact q
      | some o =>
        obtain ⟨vs, e2⟩ := m'.live (f := fr ++ b) (by rw [e, h0]; simp [exts]) (List.mem_append_right _ hx)
        rw [f' x o el] at e2
        cases e2
  · rcases g.hid x hx with q | q
    · cases el : A.lookup x with
      | none => rw [thaw_out el] at q; exact .inl q
      | some o =>
        obtain ⟨vs, e2⟩ := m'.hd x hx
        rw [f' x o el] at e2
        cases e2
    · exact .inr q
  · cases el : A.lookup a with
    | some ob =>
      rw [f a ob el] at e
      cases e
      exact cold_in el
    | none =>
      rw [cold_out el]
      exact g.kp a o ho (by rw [thaw_out el]; exact e) n
  · obtain ⟨vs, e⟩ := m.live hf ha
    obtain ⟨o', e'⟩ := g.lv fr hf a ha
    exact ⟨o', by rw [cold_out (nl a vs e)]; exact e'⟩
  · obtain ⟨vs, e⟩ := m.hd a ha
    rw [cold_out (nl a vs e), g.hk a ha, thaw_out (nl a vs e)]
  · have el := f.out e fun o z => by cases z
    obtain ⟨qs, e'⟩ := g.tk a ps (by rw [thaw_out el]; exact e)
    exact ⟨qs, by rw [cold_out el]; exact e'⟩
end
end
end FM


set_option autoImplicit false
/-! a lambda: made, called -/
namespace FM
open PySem PySem.Spec PyProof.Rows L2
variable [Tbl]
abbrev lamN : PySem.Str := "<lambda>"
/-- the heap behind the making: a table may have grown by one new code object -/
def Made (H H1 : Hp) (P c' : Addr) (q : PySem.Str) : Prop := H1 = H ∨ ∃ ps qs : Array Value, H P = some (.tbl ps) ∧ H c' = none ∧ H1 = upd (upd H P (.tbl qs)) c' (LamX.CodeO c' q)
theorem Made.grow {K : PySem.W.Frag} {H H1 : Hp} {P c' : Addr} {q : PySem.Str} {μ : Mu} {s : S} (e : Made H H1 P c' q) (m : Mem K H μ s) (t : LamX.Tabs Tbl.T H1) : Grow μ H μ H1 ∧ Mem K H1 μ s := by
  rcases e with rfl | ⟨ps, qs, hP, hc, rfl⟩
  · exact ⟨.refl m, m⟩
  · have ne : ∀ b u, H b = some u → (∀ ps, u ≠ .tbl ps) → upd (upd H P (.tbl qs)) c' (LamX.CodeO c' q) b = some u := fun b u e n => by
      rw [upd_ne (ne_of_none e hc), upd_ne (fun z => by rw [z, hP] at e; exact n ps (Option.some.inj e).symm)]
      exact e
    have g : Grow μ H μ (upd (upd H P (.tbl qs)) c' (LamX.CodeO c' q)) := by
      refine ⟨⟨[], exts_nil.symm, by simp⟩, fun _ h => .inr h, fun _ h => h, fun a o _ e n => ne a o e n, fun fr hf a ha => ?_, fun a ha => ?_, fun a us e => ?_⟩
      · obtain ⟨vs, e⟩ := m.live hf ha
        exact ⟨_, ne a _ e fun _ z => by cases z⟩
      · obtain ⟨vs, e⟩ := m.hd a ha
        rw [ne a _ e (fun _ z => by cases z), e]
      · by_cases hb : a = P
        · exact ⟨qs, by rw [upd_ne (ne_of_none e hc), hb, upd_same]⟩
        · exact ⟨us, by rw [upd_ne (ne_of_none e hc), upd_ne hb]; exact e⟩
    exact ⟨g, m.grow g (fun fr hf a ha => by
      obtain ⟨vs, e⟩ := m.live hf ha
      rw [ne a _ e (fun _ z => by cases z), e]) t⟩
section
variable {X : Cx} {pins : List (Addr × Obj)} {σ : L2.St} {H : Hp} {s : Shared}
/-- the lambda is made -/
theorem lam_mk {T : List (Addr × PySem.Str)} {c P : Addr} {params : Arguments} {body : Expr} {scope : Scope} {pos : Pos} {Q E : Value → Shared → Prop} (I : Inv X pins σ H s) (tb : LamX.TabB X.base X.mg c P) (code : X.env.code = .ref c)
    (inT : (P, X.env.qual ++ lamN) ∈ T) (one : ∀ p ∈ T, p.1 = P → p.2 = X.env.qual ++ lamN) (tabs : LamX.Tabs T H) (dflt : defaultsOf params X.env = ([], [])) (free : ∀ y ∈ scope.names, y.2 = .free → ∃ c, X.env.cells.lookup y.1 = some c)
    (go : ∀ (f c' : Addr) (pm ctv : Value) (H1 : Hp) (s1 : Shared), Inv X pins σ H1 s1 → Made H H1 P c' (X.env.qual ++ lamN) → LamX.Tabs T H1 →
      s1.heap.get? f = some (PySem.W.kla_obj lamN (X.env.qual ++ lamN) params body scope (cloFrom X.env.cells scope.names []) pm c' ctv) → H1 f = none → f ∉ frs X.stack → X.base.get? f = none → H1 c' = some (LamX.CodeO c' (X.env.qual ++ lamN)) → Q (.ref f) s1) :
    wpAny (model X.prog X.w) X.A (eval (.Lambda params body scope pos) X.env) Q E s := by
  obtain ⟨tab, eP, trip, among⟩ := tabs _ inT
  refine PySem.W.kla_eval dflt ?_
  have bAt : s.heap.BuiltinsAt X.mg P := tb.bm.keeps I.bk
  have oP : s.heap.get? P = some { cls := .none, data := .fields tab } := I.hok P _ eP
  have noFr : ∀ f, s.heap.objs.size ≤ f → f ∉ frs X.stack := fun f le z => by
    rcases List.mem_cons.mp (I.stkSub _ z) with e | e
    · have := I.lt
      rw [← e] at this
      exact Nat.lt_irrefl _ (Nat.lt_of_lt_of_le this le)
    · exact I.nofs le e
  have noBase : ∀ f, s.heap.objs.size ≤ f → X.base.get? f = none := fun f le => by
    cases q : X.base.get? f with
    | none => rfl
    | some o =>
      have := Heap.lt_size (I.bk f o q)
      exact absurd (Nat.lt_of_lt_of_le this le) (Nat.lt_irrefl _)
  cases ca : codeAmong pos tab.toList with
  | some cv =>
    obtain ⟨c', rfl, co⟩ := among pos cv ca
    refine PySem.W.kla_makeFunctionHit (closure_ok free) I.ok.glob (I.mod.glob.keeps I.bk) code (tb.code.keeps I.bk) oP trip ca bAt fun ctv h2 tk keeps le => ?_
    refine go h2.objs.size c' ((X.mg "__name__").getD .none) ctv H _ (I.kept fun b o e => Heap.get?_push_of_some _ (keeps b o e)) (.inl rfl) tabs (Heap.get?_push_size _ rfl) (I.hok.fresh le) (noFr _ le) (noBase _ le) co
  | none =>
    refine PySem.W.kla_makeFunction (closure_ok free) I.ok.glob (I.mod.glob.keeps I.bk) code (tb.code.keeps I.bk) oP trip ca tb.gP bAt fun c' ctv h2 tk keeps ge lt rec' tab' => ?_
    obtain ⟨_, oc, us, tt, ec, hoc, hud, hut⟩ := rec'
    cases ec
    have le : s.heap.objs.size ≤ h2.objs.size := by omega
    have nc : H c' = none := I.hok.fresh ge
    generalize eq : (#[rawInt pos.line, rawInt pos.col, .ref c'] : Array Value) = more at tab'
    have I1 := LamX.inv_table (t' := tk) (more := more) (h' := h2.push (PySem.W.kla_obj lamN (X.env.qual ++ lamN) params body scope (cloFrom X.env.cells scope.names []) ((X.mg "__name__").getD .none) c' ctv)) I eP
      (fun b o hb e => Heap.get?_push_of_some _ (keeps b o hb e)) (Heap.get?_push_of_some _ tab') ge ⟨oc, us, tt, Heap.get?_push_of_some _ hoc, hud, hut⟩
    have stay : ∀ b o, H b = some o → b ≠ P → upd (upd H P (.tbl (tab ++ more))) c' (LamX.CodeO c' (X.env.qual ++ lamN)) b = some o := fun b o e n => by
      rw [upd_ne (ne_of_none e nc), upd_ne n]; exact e
    have eL : (tab ++ more).toList = tab.toList ++ [rawInt pos.line, rawInt pos.col, .ref c'] := by rw [← eq]; simp
    have tabs1 : LamX.Tabs T (upd (upd H P (.tbl (tab ++ more))) c' (LamX.CodeO c' (X.env.qual ++ lamN))) := fun p hp => by
      by_cases hb : p.1 = P
      · rw [one p hp hb, hb]
        refine ⟨tab ++ more, by rw [upd_ne (ne_of_none eP nc), upd_same], by rw [eL]; exact PySem.TriplesOk_snoc _ _ _ _ trip, fun p' cv hcv => ?_⟩
        rw [eL] at hcv
        rcases LamX.among_app _ trip hcv with z | z
        · obtain ⟨c0, e1, e2⟩ := among p' cv z
          exact ⟨c0, e1, stay _ _ e2 fun z => by rw [z, eP] at e2; unfold LamX.CodeO at e2; cases e2⟩
        · exact ⟨c', z, upd_same⟩
      · obtain ⟨ps', a1, a2, a3⟩ := tabs p hp
        refine ⟨ps', stay _ _ a1 hb, a2, fun p' cv hcv => ?_⟩
        obtain ⟨c0, e1, e2⟩ := a3 p' cv hcv
        exact ⟨c0, e1, stay _ _ e2 fun z => by rw [z, eP] at e2; unfold LamX.CodeO at e2; cases e2⟩
    refine go h2.objs.size c' ((X.mg "__name__").getD .none) ctv _ _ I1 (.inr ⟨tab, tab ++ more, eP, nc, rfl⟩) tabs1 (Heap.get?_push_size _ rfl) ?_ (noFr _ le) (noBase _ le) upd_same
    have n1 : h2.objs.size ≠ c' := by omega
    have n2 : h2.objs.size ≠ P := fun z => by have := Heap.lt_size oP; rw [← z] at this; exact Nat.lt_irrefl _ (Nat.lt_of_lt_of_le this le)
    rw [upd_ne n1, upd_ne n2]
    exact I.hok.fresh le
end
/-! ### its body -/
abbrev LNF (qual : PySem.Str) (params : Arguments) (scope : Scope) (cl : List (PySem.Str × Addr)) (c' : Addr) : NdefX.NF := ⟨lamN, qual, params, [], scope, cl, c'⟩
/-- where a lambda is entered -/
def LI (k : Nat) (qual : PySem.Str) (params : Arguments) (scope : Scope) : Type :=
  {i : Around × List PySem.Env × Shared × Hp × Addr × List (PySem.Str × Addr) × Addr // Room k (i.1.deeper (NdefX.envF (LNF qual params scope i.2.2.2.2.2.1 i.2.2.2.2.2.2) i.2.2.2.2.1 i.2.2.1.heap.objs.size)) ∧ i.1.guards = some []}
def lX (P : Program) (w : World) (K : PySem.W.Frag) (mg : PySem.Str → Option Value) (base : Heap) (k : Nat) (N : List PySem.Str) (qual : PySem.Str) (params : Arguments) (scope : Scope) (E : XK) (i : LI k qual params scope) : Cx :=
  (NdefX.ncx CX0 P w K mg base N (LNF qual params scope i.1.2.2.2.2.2.1 i.1.2.2.2.2.2.2) i.1.2.2.2.2.1 i.1.1 i.1.2.1 i.1.2.2.1 i.1.2.2.2.1 E).nox
section
variable {P : Program} {w : World} {K : PySem.W.Frag} {mg : PySem.Str → Option Value} {base : Heap} {k : Nat} {N ps fr : List PySem.Str} {qual : PySem.Str} {params : Arguments} {scope : Scope} {E : XK} {body : Expr}
theorem lX_cx (SC : NdefX.NScope N ps fr scope) : CxG (lX P w K mg base k N qual params scope E) K k :=
  ⟨⟨fun _ => rfl, fun _ => SC.nd, fun i => by have := i.2.1.un; show (i.1.1.deeper _).units + 100 < _; omega, fun _ => rfl⟩, fun i => i.2.2, fun i => i.2.1⟩
/-- the lambda is called -/
theorem lam_call {R : Around} {outer : List PySem.Env} {s : Shared} {H : Hp} {f c' : Addr} {cl : List (PySem.Str × Addr)} {pm ctv : Value} {us : List Value} {vs : List V} {ws : List (Option V)} {tb : TE} {Q : VK}
    (SC : NdefX.NScope N ps fr scope) (hr : Room (k + 1) R) (hg : R.guards = some []) (e0 : Env0 P w K mg base R outer s H) (ho : s.heap.get? f = some (PySem.W.kla_obj lamN qual params body scope cl pm c' ctv)) (hc : s.heap.CodeRec (.ref c') qual)
    (C : NdefX.CellsAt cl fr ws s.heap H) (r : Vals vs us) (hl : vs.length = ps.length) (hb : bindArgs (PySem.W.kla_fn lamN qual params body scope cl pm (.ref c') ctv) ⟨us, []⟩ = Pure.pure (ps.zip us))
    (hp : ∀ i, PE (lX P w K mg base k N qual params scope E i) body tb) (ht : tb (NdefX.startF N vs ws) H Q) : codeAny (model P w) R (.call (.ref f) ⟨us, []⟩) (CR CX0 outer P w H s Q E) s := by
  have lim : s.heap.NoLimit := e0.mod.nolimit.keeps fun b o e => (e0.bs b o e).1
  refine PySem.W.kla_callFunE hr.depth ho rfl SC.co SC.gen rfl hc ?_
  rw [hb]
  refine wpAny_pure (wpAny_newFunctionEnv SC.nocell (fun y hy => SC.par y.1 (List.of_mem_zip (a := y.1) (b := y.2) hy).1) (fun h1 hns hsb => ⟨lim.fresh _ hsb, ?_⟩) SC.kind)
  show codeAny _ _ (.expr body (NdefX.envF (LNF qual params scope cl c') f s.heap.objs.size)) _ _
  have keeps : ∀ b o, s.heap.get? b = some o → h1.get? b = some o := fun b o e => hsb.extBut b o (Nat.ne_of_lt (Heap.lt_size e)) (Heap.get?_push_of_some _ e)
  have J := NdefX.inv_startN (CX := CX0) (E := E) (F := LNF qual params scope cl c') (f := f) (tk := s.toks + (ps.zip us).length) SC hr.hd e0 hl r C hns keeps
  refine PySem.W.kla_codeExpr (wpAny_mono ((hp ⟨⟨R, outer, s, H, f, cl, c'⟩, hr.deeper _, hg⟩).nox.run [] _ _ H Q J ht) (fun v s' hq => ?_) fun e s' hq => hq)
  obtain ⟨v', H', J', rv, q⟩ := hq
  exact ⟨v', H', J'.os, J'.bare, J'.base, J'.hok, rv, q⟩
end
end FM

set_option autoImplicit false
/-! tuple([i for i in range(..) if is_wanted(i)]) with a lambda -/
namespace FM
open PySem PySem.Spec PyProof.Rows L2
variable [Tbl]
/-- what the captured cells hold, in C -/
structure ClC (cl : List (PySem.Str × Addr)) (fr : List PySem.Str) (ws : List (Option V)) (C : Cold) : Prop where
  len : ws.length = fr.length
  all : ∀ y c, cl.lookup y = some c → ∃ (o : Obj) (v : Option Value), C.lookup c = some o ∧ o.data = .cell v
  inj : ∀ x y c, cl.lookup x = some c → cl.lookup y = some c → x = y
  has : ∀ (i : Nat) (y : PySem.Str), fr[i]? = some y → ∃ c, cl.lookup y = some c ∧ ∀ v, ws[i]? = some (some v) → ∃ (u : Value) (o : Obj), L2.RelV v u ∧ C.lookup c = some o ∧ o.data = .cell (some u)
theorem ClC.at {cl : List (PySem.Str × Addr)} {fr : List PySem.Str} {ws : List (Option V)} {C : Cold} {H : Hp} {h : Heap} {P : Program} {w : World} (k : ClC cl fr ws C) (cc : IsCold C H) (x : HOk P w H h) : NdefX.CellsAt cl fr ws h (thaw C H) := by
  refine ⟨k.len, fun y c e => ?_, k.inj, fun i y e => ?_⟩
  · obtain ⟨o, v, e1, e2⟩ := k.all y c e
    exact ⟨thaw_in e1, v, o, cold_at x cc e1, e2⟩
  · obtain ⟨c, hc, hv⟩ := k.has i y e
    refine ⟨c, hc, fun v ev => ?_⟩
    obtain ⟨u, o, r, e1, e2⟩ := hv v ev
    exact ⟨u, r, o, cold_at x cc e1, e2⟩
/-- the cells of a heap, made cold -/
def cellsOf (h : Heap) (cl : List (PySem.Str × Addr)) : Cold := cl.filterMap fun p => (h.get? p.2).map fun o => (p.2, o)
theorem cellsOf_some {h : Heap} : ∀ {cl : List (PySem.Str × Addr)} {b : Addr} {o : Obj}, (cellsOf h cl).lookup b = some o → h.get? b = some o ∧ ∃ y, (y, b) ∈ cl
  | [], b, o, e => by simp [cellsOf] at e
  | (y, c) :: cl, b, o, e => by
    unfold cellsOf at e
    rw [List.filterMap_cons] at e
    cases q : h.get? c with
    | none =>
      simp only [q, Option.map_none] at e
      obtain ⟨h1, z, h2⟩ := cellsOf_some (cl := cl) e
      exact ⟨h1, z, List.mem_cons_of_mem _ h2⟩
    | some ob =>
      simp only [q, Option.map_some, List.lookup_cons] at e
      by_cases hb : b = c
      · subst hb
        simp at e
        subst e
        exact ⟨q, y, List.mem_cons_self⟩
      · rw [show (b == c) = false from by simpa using hb] at e
        obtain ⟨h1, z, h2⟩ := cellsOf_some (cl := cl) e
        exact ⟨h1, z, List.mem_cons_of_mem _ h2⟩
theorem cellsOf_at {h : Heap} : ∀ {cl : List (PySem.Str × Addr)} {y : PySem.Str} {b : Addr} {o : Obj}, (y, b) ∈ cl → h.get? b = some o → (cellsOf h cl).lookup b = some o
  | [], _, _, _, e, _ => by cases e
  | (z, c) :: cl, y, b, o, e, q => by
    unfold cellsOf
    rw [List.filterMap_cons]
    by_cases hb : b = c
    · subst hb
      simp [q, List.lookup]
    · have e2 : (y, b) ∈ cl := by
        rcases List.mem_cons.mp e with k | k
        · exact absurd (Prod.mk.inj k).2 hb
        · exact k
      have ih := cellsOf_at (cl := cl) e2 q
      unfold cellsOf at ih
      cases qc : h.get? c with
      | none => simpa [qc] using ih
      | some ob =>
        simp only [Option.map_some, List.lookup_cons]
        rw [show (b == c) = false from by simpa using hb]
        exact ih
theorem clC_of {cl : List (PySem.Str × Addr)} {fr : List PySem.Str} {ws : List (Option V)} {H : Hp} {h : Heap} (k : NdefX.CellsAt cl fr ws h H) : ClC cl fr ws (cellsOf h cl) := by
  refine ⟨k.len, fun y c e => ?_, k.inj, fun i y e => ?_⟩
  · obtain ⟨_, v, o, ho, hd⟩ := k.all y c e
    exact ⟨o, v, cellsOf_at (PySem.mem_of_lookup e) ho, hd⟩
  · obtain ⟨c, hc, hv⟩ := k.has i y e
    refine ⟨c, hc, fun v ev => ?_⟩
    obtain ⟨u, r, o, ho, hd⟩ := hv v ev
    exact ⟨u, o, r, cellsOf_at (PySem.mem_of_lookup hc) ho, hd⟩
/-! ### the call within -/
abbrev lamO (qual : PySem.Str) (params : Arguments) (body : Expr) (scope : Scope) (cl : List (PySem.Str × Addr)) (pm : Value) (c' : Addr) (ctv : Value) : Obj := PySem.W.kla_obj lamN qual params body scope cl pm c' ctv
def tAct (i j : Nat) (N : List PySem.Str) (f c' : Addr) (of : Obj) (C : Cold) (q : PySem.Str) (ws : List (Option V)) (tl : TE) : TE := fun σ H Q =>
  σ[i]? = some (some (.ref f)) ∧ H f = some (.frz of triv) ∧ H c' = some (LamX.CodeO c' q) ∧ IsCold C H ∧ ∃ v, σ[j]? = some (some v) ∧ tl (NdefX.startF N [v] ws) (thaw C H) fun x H' => Fresh C H' → Q x (cold C H')
section
variable {P : Program} {w : World} {K : PySem.W.Frag} {mg : PySem.Str → Option Value} {base : Heap} {k : Nat} {Nl fr : List PySem.Str} {lp : PySem.Str} {qual : PySem.Str} {params : Arguments} {scope : Scope} {body : Expr} {tl : TE}
theorem pe_act {Z : Cx} {f c' : Addr} {cl : List (PySem.Str × Addr)} {pm ctv : Value} {C : Cold} {ws : List (Option V)} {a y : PySem.Str} {i j : Nat} {p1 p2 pos : Pos}
    (zp : Z.prog = P) (zw : Z.w = w) (zK : Z.K = K) (zm : Z.mg = mg) (zb : Z.base = base) (hr : Room (k + 1) Z.A) (hg : Z.A.guards = some []) (SC : NdefX.NScope Nl [lp] fr scope)
    (bind : ∀ (cl : List (PySem.Str × Addr)) (pm ctv : Value) (c' : Addr) (u : Value), bindArgs (PySem.W.kla_fn lamN qual params body scope cl pm (.ref c') ctv) ⟨[u], []⟩ = Pure.pure [(lp, u)])
    (hp : ∀ i, PE (lX P w K mg base k Nl qual params scope NoX i) body tl) (ck : ClC cl fr ws C) (hN : Z.N[i]? = some a) (hv : Vis Z.env.scope a) (hN2 : Z.N[j]? = some y) (hv2 : Vis Z.env.scope y)
    (hd : (a == ("__debug__" : PySem.Str)) = false := by decide) (hcd : (a == ("__classdict__" : PySem.Str)) = false := by decide) (hd2 : (y == ("__debug__" : PySem.Str)) = false := by decide) (hcd2 : (y == ("__classdict__" : PySem.Str)) = false := by decide) :
    PE Z (.Call (.Name a p1) [.Name y p2] [] pos) (tAct i j Nl f c' (lamO qual params body scope cl pm c' ctv) C qual ws tl) := by
  subst zp zw zK zm zb
  refine ⟨fun pins s σ H Q I h => ?_⟩
  obtain ⟨hf, oF, oC, cC, v, hv', ht⟩ := h
  have fnAt : ∀ {σ' : L2.St} {s' : Shared}, Inv Z pins σ' H s' → PySem.W.FnAt f s'.heap := fun I' => ⟨_, _, _, _, (I'.hok f _ oF).1⟩
  refine wpAny_Call_Name_kw (thn ((pe_var (pos := p1) hN hv hd hcd).run pins s σ H (fun u H1 => u = .ref f ∧ H1 = H) I ⟨.ref f, hf, rfl, rfl⟩) fun u s1 ⟨v1, H1, I1, r1, q1⟩ => ?_)
  obtain ⟨ev, eH⟩ := q1
  subst ev
  subst eH
  obtain rfl : u = Value.ref f := r1
  refine PySem.W.callWith_F (first := []) (fnAt I1) (thn ((pa_cons (pe_var (pos := p2) hN2 hv2 hd2 hcd2) pa_nil).run pos pins s1 σ H1 (fun vs H2 => vs = [v] ∧ H2 = H1) I1 ⟨v, hv', rfl, rfl⟩) fun us s2 ⟨vs, H2, I2, r, q⟩ => ?_)
  obtain ⟨evs, eH2⟩ := q
  subst evs
  subst eH2
  refine ⟨fnAt I2, ?_⟩
  show wpAny _ _ (call (.ref f) us) _ _ _
  obtain ⟨u, rfl, rv⟩ : ∃ u, us = [u] ∧ L2.RelV v u := by
    cases us with
    | nil => cases r
    | cons u us =>
      cases r with
      | cons r1 r2 =>
        cases r2
        exact ⟨u, rfl, r1⟩
  have e0 := env0_thaw I2.env0 cC
  have nfs : ∀ b o, C.lookup b = some o → s2.heap.get? b = some o ∧ b ∉ frs Z.stack := fun b o e => ⟨cold_at I2.hok cC e, fun z => by have := I2.stkFree b z; rw [cC b o e] at this; cases this⟩
  obtain ⟨⟨oc, vs, t, h1, h2, h3⟩, _, _⟩ := I2.hok c' _ oC
  refine wpAny_call (codeAny_mono (lam_call (E := NoX) (pm := pm) (ctv := ctv) SC hr hg e0 (I2.hok f _ oF).1 ⟨c', oc, vs, t, rfl, h1, h2, h3⟩ (ck.at cC I2.hok) (.cons rv .nil) rfl (bind _ _ _ _ _) hp ht) fun res s' hq => ?_)
  cases res with
  | error e => exact (show False from hq).elim
  | ok fl =>
    cases fl with
    | next => exact False.elim hq
    | brk => exact False.elim hq
    | cont => exact False.elim hq
    | ret u =>
      obtain ⟨x, H', os, bare, un, hok, rx, qx⟩ := hq
      obtain ⟨un', k2, f2⟩ := un_cold un cC nfs
      exact I2.after ⟨x, cold C H', os, bare, un', hok_cold hok f2 k2, rx, qx f2⟩
end
end FM

set_option autoImplicit false
/-! a def that picks by a lambda: the call -/
namespace FM
open PySem PySem.Spec PyProof.Rows L2
variable [Tbl]
theorem clo_mem {cells : List (PySem.Str × Addr)} {names : List (PySem.Str × NameKind)} (free : ∀ y ∈ names, y.2 = .free → ∃ c, cells.lookup y.1 = some c) {y : PySem.Str} {b : Addr} (h : (y, b) ∈ cloFrom cells names []) : cells.lookup y = some b := by
  rcases cloFrom_mem h with z | ⟨h1, h2⟩
  · cases z
  · obtain ⟨d, hd⟩ := free _ h1 rfl
    have hd : cells.lookup y = some d := hd
    rw [hd] at h2
    rw [hd]
    have : b = d := by rw [h2] <;> rfl
    rw [this]
/-- one turn's test: the lambda over what it captured and the item at j -/
def tLam (ρ : FM.Env) (js : List Nat) (ml : Ex) (nl j : Nat) : Tx := fun ρ4 s => match ρ4[j]? with
  | some (some v) => (ml (some v :: (js.map (fun t => (ρ[t]?).join) ++ List.replicate nl none)) s).nox.bind fun x s1 => match x with
    | .bl b => .ok b s1
    | _ => .no
  | _ => .no
def eLot (ma : Ex) (mi : Ix) (js : List Nat) (ml : Ex) (nl : Nat) : Ex := fun ρ s => (ma ρ s).bind fun v s1 => (eTupleF (fComp mi [2] (FM.gName 2) (tLam ρ js ml nl 2) (eVar 2)) [some v, none, none] s1).nox
section
variable {P : Program} {w : World} {K : PySem.W.Frag} {mg : PySem.Str → Option Value} {base : Heap} {k : Nat} {Nl fr : List PySem.Str} {lp : PySem.Str} {params : Arguments} {scope : Scope} {body : Expr}
  {x wv pv iv : PySem.Str} {g : Addr} {st : Stmt} {fd : FuncData} {N : List PySem.Str} {qm : PySem.Str} {sc : Scope} {fa c Pt : Addr} {E EW : XK} {a iter : Expr} {q1 q2 q3 q4 q5 q6 q7 q8 q9 p pos lpos : Pos} {cscope : Scope} {mi : Ix} {ma ml : Ex} {js : List Nat} {nl : Nat}
  {oc kV doc pmg cdg ct : Value} {od an : Option Addr} {osl : Array (Option Value)}
abbrev lotBody (wv pv iv : PySem.Str) (iter : Expr) (cscope : Scope) (q1 q2 q3 q4 q5 q6 q7 q8 q9 : Pos) : List Stmt := [.Return (some (.Call (.Name "tuple" q1) [.ListComp (.Name iv q2) [⟨.Name iv q3, iter, [.Call (.Name pv q4) [.Name iv q5] [] q6], 0⟩] cscope q7] [] q8)) q9]
def tLot (qual : PySem.Str) (params : Arguments) (body : Expr) (scope : Scope) (Pt : Addr) (fr : List PySem.Str) (js : List Nat) (ok : TS → Prop) (N2 : List PySem.Str) (ta : TE) : TE := fun σ H Q => ta σ H fun v H1 => LamX.Tabs Tbl.T H1 ∧
  ∀ (f c' : Addr) (pm ctv : Value) (cl : List (PySem.Str × Addr)) (C : Cold) (H2 : Hp), Made H1 H2 Pt c' qual → LamX.Tabs Tbl.T H2 → H2 c' = some (LamX.CodeO c' qual) → Fresh ((f, lamO qual params body scope cl pm c' ctv) :: C) H2 → C.lookup f = none → ClC cl fr (js.map (NdefX.slotAt σ)) C →
    ∃ tB : TS, ok tB ∧ tB { nx := fun _ H' => Q .non (thaw ((f, lamO qual params body scope cl pm c' ctv) :: C) H'), rt := fun y H' => Q y (thaw ((f, lamO qual params body scope cl pm c' ctv) :: C) H') } (L2.start N2 [v, .ref f]) (cold ((f, lamO qual params body scope cl pm c' ctv) :: C) H2)
theorem pe_lot {ta : TE} {cdv : Value} {i : BI (k + 2) qm sc fa cdv} (lk : K.lookup g = some ⟨oc, od, .func (PySem.W.fnOf x x (defArgs st) (defBody st) (defScope st) .none kV doc pmg an cdg ct), osl⟩) (hcd : PySem.W.codeIn K cdg x = true) (hg : Gl (bX P w K mg base (k + 2) N qm sc fa cdv E i) x) (hmg : mg x = some (.ref g)) (hk : PySem.W.keepIn K (.ref g) = true) (bd : Binds K (PySem.W.fnOf x x (defArgs st) (defBody st) (defScope st) .none kV doc pmg an cdg ct) [wv, pv] []) (SCg : FnScope [wv, pv, iv] [wv, pv] (defScope st))
    (code : cdv = .ref c) (tb : LamX.TabB base mg c Pt) (inT : (Pt, qm ++ ".<locals>." ++ lamN) ∈ Tbl.T) (one : ∀ p ∈ Tbl.T, p.1 = Pt → p.2 = qm ++ ".<locals>." ++ lamN)
    (dflt : ∀ env : PySem.Env, defaultsOf params env = ([], [])) (free : ∀ y ∈ scope.names, y.2 = .free → sc.names.lookup y.1 = some .cell ∨ sc.names.lookup y.1 = some .free) (frs' : ∀ y ∈ fr, (y, NameKind.free) ∈ scope.names) (at_ : js.map (fun j => N[j]?) = fr.map some)
    (pa : PE (bX P w K mg base (k + 2) N qm sc fa cdv E i) a ta) (hs : starEach [a, .Lambda params body scope lpos] (bX P w K mg base (k + 2) N qm sc fa cdv E i).env = (false, eval a (bX P w K mg base (k + 2) N qm sc fa cdv E i).env) :: starEach [.Lambda params body scope lpos] (bX P w K mg base (k + 2) N qm sc fa cdv E i).env)
    (hdb : (x == ("__debug__" : PySem.Str)) = false) :
    PE (bX P w K mg base (k + 2) N qm sc fa cdv E i) (.Call (.Name x p) [a, .Lambda params body scope lpos] [] pos) (tLot (qm ++ ".<locals>." ++ lamN) params body scope Pt fr js (fun tB => ∀ (j : BI (k + 1) x (defScope st) g cdg), PSs (bX P w K mg base (k + 1) [wv, pv, iv] x (defScope st) g cdg NoX j) (defBody st) tB) [wv, pv, iv] ta) := by
  refine ⟨fun pins s σ H Q I h => ?_⟩
  refine wpAny_Call_Name_kw (ld_glob I hg hmg ?_ hdb)
  refine PySem.W.callWith_K (h₀ := base) I.ok.mod.kin hk ?_ hs (by rfl)
  rw [hs]
  show wpAny _ _ (spliced ((false, eval a _) :: (false, eval (.Lambda params body scope lpos) _) :: [])) _ _ s
  refine Calls.spliced_cons (thn (pa.run pins s σ H _ I h) fun u s1 ⟨v, H1, I1, r1, tabs1, qq⟩ => ?_)
  have hfree : ∀ y ∈ scope.names, y.2 = .free → ∃ c, (bX P w K mg base (k + 2) N qm sc fa cdv E i).env.cells.lookup y.1 = some c := fun y hy e => (free y hy e).elim (fun z => I1.ok.has _ (.inl z)) fun z => I1.ok.has _ (.inr z)
  refine Calls.spliced_cons (lam_mk I1 tb code inT one tabs1 (dflt _) hfree fun f c' pm ctv H2 s2 I2 made tabs2 of f0 nfr nb co => ?_)
  refine Calls.spliced_nil ⟨I2.kIn, ?_⟩
  have cAt := NdefX.cells_of I2 (NdefX.Caps.made (js := js) I2.ok free frs' at_)
  have ck := clC_of cAt
  have hC : ∀ b o, (cellsOf s2.heap (cloFrom (bX P w K mg base (k + 2) N qm sc fa cdv E i).env.cells scope.names [])).lookup b = some o → (s2.heap.get? b = some o ∧ H2 b = none ∧ b ∉ frs (bX P w K mg base (k + 2) N qm sc fa cdv E i).stack ∧ base.get? b = none) ∧ ∃ v, o.data = .cell v := fun b o e => by
    obtain ⟨e1, y, hy⟩ := cellsOf_some e
    have ec := clo_mem hfree hy
    have ge := I2.ok.cab y b rfl ec
    refine ⟨⟨e1, I2.freeC y b ec, fun z => ?_, ?_⟩, by
      obtain ⟨v, ob, hb, hd⟩ := I2.cell y b ec
      rw [e1] at hb
      cases hb
      exact ⟨v, hd⟩⟩
    · rcases List.mem_cons.mp (I2.stkSub _ z) with z | z
      · exact I2.cne y b ec z
      · obtain ⟨_, ob, hb, _⟩ := I2.ok.funs.mem z
        exact Nat.lt_irrefl _ (Nat.lt_of_lt_of_le (Heap.lt_size hb) ge)
    · cases q : base.get? b with
      | none => rfl
      | some ob => exact absurd (Nat.lt_of_lt_of_le (Heap.lt_size q) (Nat.le_trans I2.ok.bsz ge)) (Nat.lt_irrefl _)
  generalize (cellsOf s2.heap (cloFrom (bX P w K mg base (k + 2) N qm sc fa cdv E i).env.cells scope.names [])) = C at ck hC
  have hf : C.lookup f = none := by
    cases q : C.lookup f with
    | none => rfl
    | some o =>
      exfalso
      obtain ⟨⟨e, _⟩, v, hd⟩ := hC f o q
      rw [of] at e
      cases e
      cases hd
  have kA : ∀ b o, List.lookup b ((f, lamO (qm ++ ".<locals>." ++ lamN) params body scope (cloFrom (bX P w K mg base (k + 2) N qm sc fa cdv E i).env.cells scope.names []) pm c' ctv) :: C) = some o → s2.heap.get? b = some o ∧ H2 b = none ∧ b ∉ frs (bX P w K mg base (k + 2) N qm sc fa cdv E i).stack ∧ base.get? b = none := fun b o e => by
    rw [List.lookup_cons] at e
    by_cases hb : b = f
    · subst hb
      simp at e
      subst e
      exact ⟨of, f0, nfr, nb⟩
    · rw [show (b == f) = false from by simpa using hb] at e
      exact (hC b o e).1
  have fresh : Fresh ((f, lamO (qm ++ ".<locals>." ++ lamN) params body scope (cloFrom (bX P w K mg base (k + 2) N qm sc fa cdv E i).env.cells scope.names []) pm c' ctv) :: C) H2 := fun b o e => (kA b o e).2.1
  obtain ⟨tB, psB, hB⟩ := qq f c' pm ctv _ C H2 made tabs2 co fresh hf ck
  have bnd := bd s2 [u, .ref f] I2.kIn rfl
  rw [List.append_nil] at bnd
  have rc := LamX.run_ofS (CX := CX0) (N := [wv, pv, iv]) (ps := [wv, pv]) (us := [u, .ref f]) (vs := [v, .ref f]) (E := NoX) (Q := fun y H' => Q y (thaw (_ :: C) H')) lk hcd SCg i.2.1 (env0_cold I2.env0 fresh fun b o e => ⟨(kA b o e).1, (kA b o e).2.2⟩) bnd (.cons r1 (.cons rfl .nil)) rfl
    fun hr' => ⟨tB, (psB ⟨⟨_, _, s2, _⟩, hr', i.2.2⟩).nox, hB⟩
  refine wpAny_call (codeAny_mono rc fun res s' hq => ?_)
  cases res with
  | error e => exact (show False from hq).elim
  | ok fl =>
    cases fl with
    | next => exact False.elim hq
    | brk => exact False.elim hq
    | cont => exact False.elim hq
    | ret u =>
      obtain ⟨y, H', os, bare, un, hok, rx, qx⟩ := hq
      exact I2.after ⟨y, _, os, bare, un_thaw un fresh (fun b o e => ⟨(kA b o e).1, (kA b o e).2.2.1⟩) hok, hok_thaw hok (fun b o e => un.frzs b o _ (cold_in e)), rx, qx⟩
theorem sr_lam {μ μ4 : Mu} {H H4 : Hp} {ρ : FM.Env} {σ : L2.St} {s : S} {v : Val} {y : V} (hr : SR K H μ ρ σ) (m : Mem K H μ s) (up : ∀ (u : Val) (z : V), Rep K H μ u z → Rep K H4 μ4 u z) (r : Rep K H4 μ4 v y) (hn : Nl.length = 1 + js.length + nl) :
    SR K H4 μ4 (some v :: (js.map (fun t => (ρ[t]?).join) ++ List.replicate nl none)) (NdefX.startF Nl [y] (js.map (NdefX.slotAt σ))) := by
  unfold NdefX.startF
  refine ⟨by simp; omega, fun i u e => ?_⟩
  cases i with
  | zero =>
    simp at e
    subst e
    exact ⟨y, rfl, r⟩
  | succ i =>
    rw [List.getElem?_cons_succ] at e
    by_cases hi : i < js.length
    · rw [List.getElem?_append_left (by simpa using hi), List.getElem?_map] at e
      obtain ⟨t, et⟩ : ∃ t, js[i]? = some t := ⟨_, List.getElem?_eq_getElem hi⟩
      rw [et] at e
      have e : (ρ[t]?).join = some u := Option.some.inj e
      have e2 : ρ[t]? = some (some u) := by
        cases q : ρ[t]? with
        | none => rw [q] at e; cases e
        | some o =>
          rw [q] at e
          have : o = some u := e
          rw [this]
      obtain ⟨z, hz, rz⟩ := hr.get t u e2
      refine ⟨z, ?_, up u z rz⟩
      show ((some y :: (js.map (NdefX.slotAt σ) ++ _)) : List (Option V))[i + 1]? = _
      rw [List.getElem?_cons_succ, List.getElem?_append_left (by simpa using hi), List.getElem?_map, et]
      show some (NdefX.slotAt σ t) = _
      rw [NdefX.slotAt_of hz]
    · rw [List.getElem?_append_right (by simpa using hi), List.getElem?_replicate] at e
      split at e <;> cases e
theorem me_lot {cdv : Value} (lk : K.lookup g = some ⟨oc, od, .func (PySem.W.fnOf x x (defArgs st) (defBody st) (defScope st) .none kV doc pmg an cdg ct), osl⟩) (hcd : PySem.W.codeIn K cdg x = true) (hg : ∀ i, Gl (bX P w K mg base (k + 2) N qm sc fa cdv E i) x) (hmg : mg x = some (.ref g)) (hk : PySem.W.keepIn K (.ref g) = true)
    (bd : Binds K (PySem.W.fnOf x x (defArgs st) (defBody st) (defScope st) .none kV doc pmg an cdg ct) [wv, pv] []) (SCg : FnScope [wv, pv, iv] [wv, pv] (defScope st)) (hbody : defBody st = lotBody wv pv iv iter cscope q1 q2 q3 q4 q5 q6 q7 q8 q9)
    (hi : CxG (bX P w K mg base (k + 1) [wv, pv, iv] x (defScope st) g cdg NoX) K (k + 1) → MI (bX P w K mg base (k + 1) [wv, pv, iv] x (defScope st) g cdg NoX) K NoX (.Name iv q3) iter mi false) (hok : ∀ j, BlkOk (bX P w K mg base (k + 1) [wv, pv, iv] x (defScope st) g cdg NoX j).N (bX P w K mg base (k + 1) [wv, pv, iv] x (defScope st) g cdg NoX j).env.scope cscope [(iv, 2)])
    (hgt : CxG (bX P w K mg base (k + 1) [wv, pv, iv] x (defScope st) g cdg NoX) K (k + 1) → MG (blk (bX P w K mg base (k + 1) [wv, pv, iv] x (defScope st) g cdg NoX) cscope) K (.Name iv q3) (FM.gName 2) [2] false) (he : CxG (bX P w K mg base (k + 1) [wv, pv, iv] x (defScope st) g cdg NoX) K (k + 1) → ME (blk (bX P w K mg base (k + 1) [wv, pv, iv] x (defScope st) g cdg NoX) cscope) K NoX (.Name iv q2) (eVar 2))
    (hvp : ∀ p, Vis (blk (bX P w K mg base (k + 1) [wv, pv, iv] x (defScope st) g cdg NoX) cscope p).env.scope pv) (hvi : ∀ p, Vis (blk (bX P w K mg base (k + 1) [wv, pv, iv] x (defScope st) g cdg NoX) cscope p).env.scope iv)
    (hfs : ∀ j z, foldedSetIterable iter (bX P w K mg base (k + 1) [wv, pv, iv] x (defScope st) g cdg NoX j).env z = Pure.pure z)
    (htu : ∀ j, Gl (bX P w K mg base (k + 1) [wv, pv, iv] x (defScope st) g cdg NoX j) "tuple") (htm : mg "tuple" = none)
    (dpv : (pv == ("__debug__" : PySem.Str)) = false) (cpv : (pv == ("__classdict__" : PySem.Str)) = false) (div : (iv == ("__debug__" : PySem.Str)) = false) (civ : (iv == ("__classdict__" : PySem.Str)) = false)
    (code : cdv = .ref c) (tb : LamX.TabB base mg c Pt) (inT : (Pt, qm ++ ".<locals>." ++ lamN) ∈ Tbl.T) (one : ∀ p ∈ Tbl.T, p.1 = Pt → p.2 = qm ++ ".<locals>." ++ lamN)
    (dflt : ∀ env : PySem.Env, defaultsOf params env = ([], [])) (free : ∀ y ∈ scope.names, y.2 = .free → sc.names.lookup y.1 = some .cell ∨ sc.names.lookup y.1 = some .free) (frs' : ∀ y ∈ fr, (y, NameKind.free) ∈ scope.names) (at_ : js.map (fun j => N[j]?) = fr.map some)
    (SCl : NdefX.NScope Nl [lp] fr scope) (hn : Nl.length = 1 + js.length + nl)
    (bind : ∀ (cl : List (PySem.Str × Addr)) (pm ctv : Value) (c' : Addr) (u : Value), bindArgs (PySem.W.kla_fn lamN (qm ++ ".<locals>." ++ lamN) params body scope cl pm (.ref c') ctv) ⟨[u], []⟩ = Pure.pure [(lp, u)])
    (hml : CxG (lX P w K mg base k Nl (qm ++ ".<locals>." ++ lamN) params scope NoX) K k → ME (lX P w K mg base k Nl (qm ++ ".<locals>." ++ lamN) params scope NoX) K NoX body ml)
    (ha : ME (bX P w K mg base (k + 2) N qm sc fa cdv E) K EW a ma) (hs : ∀ i, starEach [a, .Lambda params body scope lpos] (bX P w K mg base (k + 2) N qm sc fa cdv E i).env = (false, eval a (bX P w K mg base (k + 2) N qm sc fa cdv E i).env) :: starEach [.Lambda params body scope lpos] (bX P w K mg base (k + 2) N qm sc fa cdv E i).env)
    (hdb : (x == ("__debug__" : PySem.Str)) = false) :
    ME (bX P w K mg base (k + 2) N qm sc fa cdv E) K EW (.Call (.Name x p) [a, .Lambda params body scope lpos] [] pos) (eLot ma mi js ml nl) := by
  obtain ⟨ta, pa, sa⟩ := ha.ex
  have cX : CxG (bX P w K mg base (k + 1) [wv, pv, iv] x (defScope st) g cdg NoX) K (k + 1) := bX_cx SCg
  obtain ⟨wi, pi, si⟩ := (hi cX).ex
  obtain ⟨gg, pg, sg⟩ := (hgt cX).ex
  obtain ⟨te, pe, se⟩ := (he cX).ex
  obtain ⟨tl, pl, sl⟩ := (hml (lX_cx SCl)).ex
  refine ⟨⟨_, fun i => pe_lot lk hcd (hg i) hmg hk bd SCg code tb inT one dflt free frs' at_ (pa i) (hs i) hdb, fun σ H ρ μ s Q hr m h => ?_⟩⟩
  refine sa σ H ρ μ s _ hr m (wp_mono (wp_bind h) (fun v s1 h1 => ?_) fun _ _ q => q)
  intro xv H1 μ1 g1 m1 r1
  refine ⟨m1.tb, fun f c' pm ctv cl C H2 made tabs2 co fresh hf ck => ?_⟩
  obtain ⟨gm, m2⟩ := made.grow m1 tabs2
  obtain ⟨gc, m3⟩ := m2.cold fresh
  refine ⟨tRet (tCB (rTupOf K) (tCons (tLc wi gg (L2.tB (tAct 1 2 Nl f c' (lamO (qm ++ ".<locals>." ++ lamN) params body scope cl pm c' ctv) C (qm ++ ".<locals>." ++ lamN) (js.map (NdefX.slotAt σ)) tl)) te [2]) tNil)), fun j => ?_, ?_⟩
  · rw [hbody]
    refine pss_one (ps_ret (cX.kk j ▸ pe_callTy call_tupF (htu j) htm (by decide +kernel) (pa_cons (pe_lc (own := [(iv, 2)]) (cX.calm j) (cX.nd j) (pi j) (hok j) (fun s H C cl fp => pg (j, s, H, C, cl, fp)) (fun s H C' cl' fp => ?_) (fun s H C cl fp => pe (j, s, H, C, cl, fp)) (hfs j)) pa_nil rfl) (he := rfl) (hpl := rfl)))
    exact pts_one (pt_val (pe_act (Z := blk (bX P w K mg base (k + 1) [wv, pv, iv] x (defScope st) g cdg NoX) cscope (j, s, H, C', cl', fp)) (i := 1) (j := 2) rfl rfl rfl rfl rfl ((cX.blk (scope := cscope)).rm (j, s, H, C', cl', fp)) ((cX.blk (scope := cscope)).gd (j, s, H, C', cl', fp)) SCl bind pl ck rfl (hvp _) rfl (hvi _) dpv cpv div civ))
  · have h1 := wp_nox (E' := XP K μ1 (cold ((f, lamO (qm ++ ".<locals>." ++ lamN) params body scope cl pm c' ctv) :: C) H2) NoX) h1
    have fcold : cold ((f, lamO (qm ++ ".<locals>." ++ lamN) params body scope cl pm c' ctv) :: C) H2 f = some (.frz (lamO (qm ++ ".<locals>." ++ lamN) params body scope cl pm c' ctv) triv) := cold_in (by simp [List.lookup])
    have ccold : cold ((f, lamO (qm ++ ".<locals>." ++ lamN) params body scope cl pm c' ctv) :: C) H2 c' = some (LamX.CodeO c' (qm ++ ".<locals>." ++ lamN)) := fresh.cold co
    have Ccold : ∀ b o, C.lookup b = some o → cold ((f, lamO (qm ++ ".<locals>." ++ lamN) params body scope cl pm c' ctv) :: C) H2 b = some (.frz o triv) := fun b o e => cold_in (by
      rw [List.lookup_cons, show (b == f) = false from by
        rw [beq_eq_false_iff_ne]
        intro z
        rw [z, hf] at e
        cases e]
      exact e)
    have sr0 : SR K (cold ((f, lamO (qm ++ ".<locals>." ++ lamN) params body scope cl pm c' ctv) :: C) H2) μ1 [some v, none, none] (L2.start [wv, pv, iv] [xv, .ref f]) := by
      refine ⟨rfl, fun i u e => ?_⟩
      match i, e with
      | 0, e =>
        have : v = u := by simpa using e
        subst this
        exact ⟨xv, rfl, Rep.mono gc m2 v xv (Rep.mono gm m1 v xv r1)⟩
      | 1, e => simp at e
      | 2, e => simp at e
      | n + 3, e => simp at e
    show tCB (rTupOf K) _ (L2.start [wv, pv, iv] [xv, .ref f]) _ _
    refine tup_snd (EW := NoX) (mf := fComp mi [2] (FM.gName 2) (tLam ρ js ml nl 2) (eVar 2)) (ρ := [some v, none, none]) (s := s1) m3 (fun Q' hq => comp_sndP [2] si sg (fun σ4 H4 ρ4 μ4 s4 Q4 ag g4 hr4 m4 h4 => ?_) se (by decide) sr0 m3 hq) (wp_mono h1 (fun y s5 q => ?_) fun _ _ q => q)
    · unfold tLam at h4
      split at h4
      · rename_i v4 e4
        obtain ⟨y4, ey, r4⟩ := hr4.get 2 v4 e4
        have ccC : IsCold C H4 := fun b o e => g4.kp b _ (m3.offT (Ccold b o e) fun _ z => by cases z) (Ccold b o e) fun _ z => by cases z
        refine ⟨by rw [ag 1 (by decide)]; rfl, g4.kp f _ (m3.offT fcold fun _ z => by cases z) fcold (fun _ z => by cases z), g4.kp c' _ (m3.offT ccold fun _ z => by unfold LamX.CodeO at z; cases z) ccold (fun _ z => by unfold LamX.CodeO at z; cases z), ccC, y4, ey, ?_⟩
        have up : ∀ (u : Val) (z : V), Rep K H μ u z → Rep K (thaw C H4) μ4 u z := fun u z r => Rep.thaw ccC u z (Rep.mono g4 m3 u z (Rep.mono gc m2 u z (Rep.mono gm m1 u z (Rep.mono g1 m u z r))))
        refine sl _ (thaw C H4) _ μ4 s4 _ (sr_lam hr m up (Rep.thaw ccC v4 y4 r4) hn) (m4.thaw ccC) (wp_mono (wp_nox (E' := XP K μ4 (thaw C H4) NoX) (wp_bind h4)) (fun b s5 h5 => ?_) fun _ _ q => q)
        intro z H5 μ5 g5 m5 r5 f5
        split at h5
        · rename_i b0
          refine ⟨b0, rep_bl r5, ?_⟩
          exact h5 (cold C H5) μ5 (g5.cold m4 ccC f5 m5) (m5.cold f5).2
        · exact h5.elim
      · exact h4.elim
    · intro z H5 μ5 g5 m5 r5
      obtain ⟨cc, g6⟩ := g5.thaw m2 fresh
      exact q z _ μ5 ((g1.trans gm).trans g6) (m5.thaw cc) (Rep.thaw cc y z r5)
/-- the picking def, as it stands in the module -/
def HasLot (K : PySem.W.Frag) (mg : PySem.Str → Option Value) (x wv pv : PySem.Str) (st : Stmt) : Prop :=
  ∃ (g : Addr) (oc kV doc pmg cdg ct : Value) (od an : Option Addr) (osl : Array (Option Value)), K.lookup g = some ⟨oc, od, .func (PySem.W.fnOf x x (defArgs st) (defBody st) (defScope st) .none kV doc pmg an cdg ct), osl⟩ ∧
    PySem.W.codeIn K cdg x = true ∧ mg x = some (.ref g) ∧ PySem.W.keepIn K (.ref g) = true ∧ Binds K (PySem.W.fnOf x x (defArgs st) (defBody st) (defScope st) .none kV doc pmg an cdg ct) [wv, pv] []
end
end FM

set_option autoImplicit false
/-! the law's end, with tables of code objects -/
namespace FM
open PySem PySem.Spec PyProof.Rows L2
section
variable {P : Program} {w : World} {K : PySem.W.Frag}
abbrev scO (vs : List Value) : Obj := { cls := .type "list", data := .seq vs.toArray }
/-- the heap that is told at the law's entry: the script, or nothing; the tables, empty -/
def inH (ts : List Addr) (a : Addr) (ns : List Int) (vs : List Value) (H : Hp) : Prop :=
  (H = (fun b => if b ∈ ts then some (.tbl #[]) else none) ∧ K.lookup a = some (scO vs)) ∨
  (H = (fun b => if b ∈ ts then some (.tbl #[]) else if b = a then some (.frz (scO vs) (.lst (ns.map V.int))) else none) ∧ K.lookup a = none)
theorem inH_some {ts : List Addr} {a b : Addr} {ns : List Int} {vs : List Value} {H : Hp} {o : HO} (q : inH (K := K) ts a ns vs H) (e : H b = some o) : (b ∈ ts ∧ o = .tbl #[]) ∨ (b ∉ ts ∧ b = a ∧ o = .frz (scO vs) (.lst (ns.map V.int)) ∧ K.lookup a = none) := by
  rcases q with ⟨rfl, _⟩ | ⟨rfl, hk⟩
  · simp only at e
    split at e
    · cases e; exact .inl ⟨by assumption, rfl⟩
    · cases e
  · simp only at e
    split at e
    · cases e; exact .inl ⟨by assumption, rfl⟩
    · split at e
      · cases e; exact .inr ⟨by assumption, by assumption, rfl, hk⟩
      · cases e
theorem inH_tab {ts : List Addr} {a b : Addr} {ns : List Int} {vs : List Value} {H : Hp} (q : inH (K := K) ts a ns vs H) (hb : b ∈ ts) : H b = some (.tbl #[]) := by
  rcases q with ⟨rfl, _⟩ | ⟨rfl, hk⟩ <;> simp [hb]
theorem script_rep [Tbl] {μ : Mu} {H : Hp} : ∀ (ns : List Int), RepAll K H μ (ns.map Val.int) (ns.map V.int)
  | [] => .nil
  | n :: ns => .cons (by unfold Rep; rfl) (script_rep ns)
/-- the promise at the heap behind the top -/
theorem law_M [Tbl] {mg mb : PySem.Str → Option Value} {k : Nat} {fa a : Addr} {fd : FuncData} {x : PySem.Str} {m : Fn} {s₁ : Shared} {vs : List Value} {ns : List Int} (cs : List (Addr × Addr))
    (inK : K.In s₁.heap) (hns : s₁.heap.Ns mainGlobals mg) (hb : s₁.heap.Ns builtinsNs mb) (hbb : ∀ x : PySem.Str, x ≠ "__name__" → mb x = bootBuiltins x) (noL : s₁.heap.NoLimit) (hg : s₁.gens = #[])
    (tabs : ∀ p ∈ cs, s₁.heap.get? p.2 = some { cls := .none, data := .fields #[] } ∧ K.lookup p.2 = none ∧ PySem.W.CodeHd s₁.heap p.1 p.2) (told : ∀ q ∈ Tbl.T, ∃ p ∈ cs, q.1 = p.2)
    (mod : ∃ (bm : Addr) (ob : Obj), mg "__builtins__" = some (.ref bm) ∧ bm ≠ builtinsNs ∧ s₁.heap.get? bm = some ob ∧ ob.cls = .type "module" ∧ ob.dict = some builtinsNs ∧ ob.data = .plain)
    (ha : s₁.heap.get? a = some (scO vs)) (hi : IntsAre vs ns) (hl : ns.length ≤ sizeLine) (hr : Room k callerA)
    (F : ∀ base : Heap, K.In base → base.Ns mainGlobals mg → (∀ p ∈ cs, LamX.TabB base mg p.1 p.2) → FnG P w K mg base CX0 k fa fd [x] (spOf K 1 m)) (hbind : ∀ (s : Shared) (u : Value), BindsTo s fd ⟨[u], []⟩ [(x, u)])
    (hm : ∃ s', m [.scr (ns.map Val.int)] [] = .ok (.val (.bl true)) s') :
    codeAny (model P w) callerA (.call (.ref fa) ⟨[.ref a], []⟩) (fun r s' => r = .ok (.ret (.bool true)) ∧ OldK s₁.heap s'.heap ∧ s'.os = s₁.os ∧ AllBare s'.gens) s₁ := by
  obtain ⟨ts, hts⟩ : ∃ ts, ts = cs.map (·.2) := ⟨_, rfl⟩
  have isT : ∀ b ∈ ts, s₁.heap.get? b = some { cls := .none, data := .fields #[] } := fun b hb => by
    rw [hts] at hb
    obtain ⟨p, hp, rfl⟩ := List.mem_map.mp hb
    exact (tabs p hp).1
  have aT : a ∉ ts := fun z => by
    have q := isT a z
    rw [ha] at q
    cases q
  obtain ⟨H, hH⟩ : ∃ H, inH (K := K) ts a ns vs H := by
    cases hk : K.lookup a with
    | some o =>
      have e := inK a o hk
      rw [ha] at e
      cases e
      exact ⟨_, .inl ⟨rfl, hk⟩⟩
    | none => exact ⟨_, .inr ⟨rfl, hk⟩⟩
  have base_of : ∀ {b : Addr} {o : Obj}, s₁.heap.get? b = some o → H b = none → (hidT s₁.heap H).get? b = some o := fun e n => hidT_get e n
  -- neither the script nor a table
  have nod : ∀ {b : Addr} {o : Obj}, s₁.heap.get? b = some o → o.data ≠ .seq vs.toArray → o.data ≠ .fields #[] → H b = none := fun {b o} e d1 d2 => by
    cases q : H b with
    | none => rfl
    | some u =>
      rcases inH_some hH q with ⟨z, _⟩ | ⟨_, rfl, _⟩
      · rw [isT b z] at e; cases e; exact absurd rfl d2
      · rw [ha] at e; cases e; exact absurd rfl d1
  have nodD : ∀ {b : Addr} {o : Obj} {es : Array DictEntry} {ep : Nat}, s₁.heap.get? b = some o → o.data = .dict es ep → H b = none := fun e d => nod e (fun z => by rw [d] at z; cases z) fun z => by rw [d] at z; cases z
  have nsK : ∀ {b : Addr} {m : PySem.Str → Option Value}, s₁.heap.Ns b m → (hidT s₁.heap H).Ns b m := fun ⟨o, es, ep, e, d, r⟩ => ⟨o, es, ep, base_of e (nodD e d), d, r⟩
  have inB : K.In (hidT s₁.heap H) := fun b o e => base_of (inK b o e) (by
    cases q : H b with
    | none => rfl
    | some u =>
      rcases inH_some hH q with ⟨z, _⟩ | ⟨_, rfl, _, hk⟩
      · rw [hts] at z
        obtain ⟨p, hp, rfl⟩ := List.mem_map.mp z
        rw [(tabs p hp).2.1] at e; cases e
      · rw [hk] at e; cases e)
  have hok : HOk P w H s₁.heap := fun b u z => by
    rcases inH_some hH z with ⟨zb, rfl⟩ | ⟨_, rfl, rfl, _⟩
    · exact isT b zb
    · exact ⟨ha, by rw [List.length_map]; exact hl, vs, _, vals_ints hi, ha⟩
  obtain ⟨mc, l1, l2⟩ := noL
  have hM : Mod K mg (hidT s₁.heap H) := ⟨inB, nsK hns, ⟨mb, nsK hb, hbb⟩, ⟨mc, nsK l1, l2⟩⟩
  have tabB : ∀ p ∈ cs, LamX.TabB (hidT s₁.heap H) mg p.1 p.2 := fun p hp => by
    obtain ⟨t1, t2, t3⟩ := tabs p hp
    constructor
    · obtain ⟨o, us, fl, tf, gs, tg, b, n, tt, e1, e2, e3, e4, rest⟩ := t3
      exact ⟨o, us, fl, tf, gs, tg, b, n, tt, base_of e1 (nod e1 (fun z => by rw [e3] at z; cases z) (fun z => by
        rw [e3] at z
        have z : us = #[] := by injection z
        rw [z] at e4
        simp at e4)), e2, e3, e4, rest⟩
    · obtain ⟨bm, ob, b1, b2, b3, b4, b5, b6⟩ := mod
      refine ⟨bm, ob, b1, b2, fun q => ?_, fun q => ?_, base_of b3 (nod b3 (fun z => by rw [b6] at z; cases z) fun z => by rw [b6] at z; cases z), b4, b5, b6⟩
      · obtain ⟨o, es, ep, e, d, _⟩ := hns
        rw [q, e] at b3; cases b3
        rw [d] at b6; cases b6
      · rw [q, t1] at b3; cases b3; cases b6
    · intro z
      obtain ⟨o, es, ep, e, d, _⟩ := hns
      rw [z, t1] at e; cases e; cases d
  have e0 : Env0 P w K mg (hidT s₁.heap H) callerA [] s₁ H := ⟨rfl, hM, fun b o e => of_hidT e, Nat.le_of_eq (hidT_size _ _), trivial, fun b hb => absurd (show b ∈ ([] : List Addr) from hb) (by simp), hok, .of_eq hg⟩
  obtain ⟨s', hm⟩ := hm
  have hsp : spOf K 1 m [.ref a] H (fun v _ => v = .bl true) fun _ _ _ => False := by
    refine ⟨rfl, ⟨[], fun _ => False⟩, [], [.scr (ns.map Val.int)], ⟨rfl, by simp, by simp, by simp [lk], by simp [lk], fun _ h => h.elim, fun q hq => ?_⟩, .cons ?_ .nil, ?_⟩
    · obtain ⟨p, hp, e⟩ := told q hq
      refine LamX.TabS.nil (inH_tab hH ?_)
      rw [e, hts]
      exact List.mem_map.mpr ⟨p, hp, rfl⟩
    · have el := hi.length
      unfold Rep
      refine ⟨a, _, rfl, ?_, by rw [List.length_map]; exact hl, script_rep ns⟩
      rcases hH with ⟨_, hk⟩ | ⟨rfl, _⟩
      · exact .inr fun H' => .inr ⟨_, vs.toArray, _, hk, rfl, rfl, rfl, by rw [List.size_toArray, el]; exact hl, by simpa using vals_ints hi⟩
      · exact .inl ⟨.inr ⟨_, (if_neg aT).trans (if_pos rfl)⟩, by simp, fun z => z⟩
    · rw [hm]
      intro x H' _ _ r
      unfold Rep at r
      exact r
  refine codeAny_mono ((F _ inB (nsK hns) tabB).go callerA [] s₁ H ⟨[.ref a], []⟩ [.ref a] [.ref a] _ _ hr rfl e0 (hbind s₁ (.ref a)) (.cons rfl .nil) hsp) fun r s' h => ?_
  cases r with
  | error e => exact False.elim h
  | ok fl =>
    cases fl with
    | next => exact False.elim h
    | brk => exact False.elim h
    | cont => exact False.elim h
    | ret u =>
      obtain ⟨v, H', os, bare, un, hok', r', q⟩ := h
      have q' : v = .bl true := q
      subst q'
      obtain rfl : u = Value.bool true := r'
      have same : ∀ b o, b ∉ ts → s₁.heap.get? b = some o → s'.heap.get? b = some o := fun b o nb e => by
        cases q : H b with
        | none => exact un.keep b o e q (by intro z; exact absurd (show b ∈ ([] : List Addr) from z) (by simp)) (by simp)
        | some u =>
          rcases inH_some hH q with ⟨z, _⟩ | ⟨_, rfl, rfl, _⟩
          · exact absurd z nb
          · obtain ⟨e1, _⟩ := hok b _ q
            obtain ⟨e2, _⟩ := hok' b _ (un.frzs b _ _ q)
            rw [e] at e1; cases e1
            exact e2
      have more : ∀ p ∈ cs, ∃ us : Array Value, s'.heap.get? p.2 = some { cls := .none, data := .fields us } := fun p hp => by
        obtain ⟨us, z⟩ := un.tbls p.2 #[] (inH_tab hH (by rw [hts]; exact List.mem_map.mpr ⟨p, hp, rfl⟩))
        exact ⟨_, hok' p.2 _ z⟩
      refine ⟨rfl, ⟨fun b o e => ?_, fun b o e => ?_⟩, os, bare⟩
      · by_cases nb : b ∈ ts
        · rw [hts] at nb
          obtain ⟨p, hp, rfl⟩ := List.mem_map.mp nb
          obtain ⟨us, hu⟩ := more p hp
          obtain ⟨t1, _, t3⟩ := tabs p hp
          rw [t1] at e
          cases e
          exact .inr (.inl ⟨(t3.tab t1).isCodeTable, rfl, #[], us, rfl, by rw [Array.empty_append]; exact hu⟩)
        · exact .inl (same b o nb e)
      · by_cases nb : b ∈ ts
        · rw [hts] at nb
          obtain ⟨p, hp, rfl⟩ := List.mem_map.mp nb
          obtain ⟨us, hu⟩ := more p hp
          exact ⟨_, hu⟩
        · exact ⟨o, same b o nb e⟩
/-- the goal that k_head leaves, from the mirror of the law -/
theorem walk_M [Tbl] {l : PySem.W.OpenLaw} {n k : Nat} {q : Program} {loose : List PySem.Str} {XP : (PySem.Str → Option Value) → Heap → Prop} {YP : World → Heap → Prop} {d : DefRec} {K : Params → PySem.W.Frag} {x : PySem.Str} {m : List Int → Fn} (cs : List (Addr × Addr))
    (hn : l.most = some n) (hn2 : n ≤ sizeLine) (hdf : d.params.defaults = []) (hr : Room k callerA)
    (hY : ∀ (w : World) (h : Heap), YP w h → (K w.params).In h) (hT : ∀ (w : World) (h : Heap), YP w h → ∀ p ∈ cs, h.get? p.2 = some { cls := .none, data := .fields #[] } ∧ (K w.params).lookup p.2 = none ∧ PySem.W.CodeHd h p.1 p.2) (told : ∀ q ∈ Tbl.T, ∃ p ∈ cs, q.1 = p.2)
    (F : ∀ (w : World) (mg : PySem.Str → Option Value) (fa : Addr) (h : Heap), (K w.params).In h → h.Ns mainGlobals mg → mg d.name = some (.ref fa) →
      ∃ fd : FuncData, (∀ (s : Shared) (u : Value), BindsTo s fd ⟨[u], []⟩ [(x, u)]) ∧
        ∀ (ns : List Int) (base : Heap), (K w.params).In base → base.Ns mainGlobals mg → (∀ p ∈ cs, LamX.TabB base mg p.1 p.2) → FnG l.prog w (K w.params) mg base CX0 k fa fd [x] (spOf (K w.params) 1 (m ns)))
    (hm : ∀ ns : List Int, ns.length ≤ n → (∀ z ∈ ns, Builtin.Int.intBits z ≤ 1048576) → ∃ s', m ns [.scr (ns.map Val.int)] [] = .ok (.val (.bl true)) s') :
    PySem.W.WalkO q loose XP YP l.row.toRowW d [] (fun f vs => PySem.call f vs) := by
  refine Att.attach_callB hn hdf fun w s₀ s₁ mg mb fa o pm cd doc a vs ns G Y ho hd hcd hmg hobj hints hlen hbits hg => ?_
  have inK := hY w _ Y
  obtain ⟨fd, hb, hF⟩ := F w mg fa _ inK G.T.g hmg
  exact law_M cs inK G.T.g G.T.b G.T.builtins G.T.nolimit hg (hT w _ Y) told G.T.bmain hobj hints (Nat.le_trans hlen hn2) hr (hF ns) hb (hm ns hlen hbits)
end
theorem all_ex [Tbl] {P : Program} {w : World} {K : PySem.W.Frag} {mg : PySem.Str → Option Value} {k : Nat} {fa : Addr} {x : PySem.Str} {m : Nat → Fn} (cs : List (Addr × Addr)) (u : List Int → Nat)
    (h : ∃ fd : FuncData, (∀ (s : Shared) (v : Value), BindsTo s fd ⟨[v], []⟩ [(x, v)]) ∧ ∀ (N : Nat) (base : Heap), K.In base → base.Ns mainGlobals mg → (∀ p ∈ cs, LamX.TabB base mg p.1 p.2) → FnG P w K mg base CX0 k fa fd [x] (spOf K 1 (m N))) :
    ∃ fd : FuncData, (∀ (s : Shared) (v : Value), BindsTo s fd ⟨[v], []⟩ [(x, v)]) ∧ ∀ (ns : List Int) (base : Heap), K.In base → base.Ns mainGlobals mg → (∀ p ∈ cs, LamX.TabB base mg p.1 p.2) → FnG P w K mg base CX0 k fa fd [x] (spOf K 1 (m (u ns))) :=
  let ⟨fd, hb, hF⟩ := h
  ⟨fd, hb, fun ns base a b c => hF (u ns) base a b c⟩
abbrev TabT := List (Addr × PySem.Str)
theorem mem_by {T : TabT} {P : Addr} {q : PySem.Str} (h : T.contains (P, q) = true) : (P, q) ∈ T := by simpa using h
theorem one_by {T : TabT} {P : Addr} {q : PySem.Str} (h : (T.all fun p => !(p.1 == P) || p.2 == q) = true) : ∀ p ∈ T, p.1 = P → p.2 = q := by
  intro p hp e
  have := List.all_eq_true.mp h p hp
  simpa [e] using this
theorem told_by {T : TabT} {cs : List (Addr × Addr)} (h : (T.all fun q => cs.any fun p => q.1 == p.2) = true) : ∀ q ∈ T, ∃ p ∈ cs, q.1 = p.2 := by
  intro q hq
  have := List.all_eq_true.mp h q hq
  obtain ⟨p, hp, e⟩ := List.any_eq_true.mp this
  exact ⟨p, hp, by simpa using e⟩
end FM

set_option autoImplicit false
/-! more constructs -/
namespace FM
open PySem PySem.Spec PyProof.Rows L2
variable [Tbl]
/-- truths by `is` -/
def opIs (s : S) (x y : Val) : Option Val := match x, y with
  | .bl a, .bl b => some (.bl (decide (a = b)))
  | _, _ => none
theorem os_is {ι : Type} {X : ι → Cx} {K : PySem.W.Frag} : OpS X K (compareOp .Is) opIs := by
  refine ⟨rIsB, fun i => op_isBl, fun x y H μ s a b v m ra rb e Q q => ?_⟩
  unfold opIs at e
  split at e
  · cases e
    exact ⟨_, _, rep_bl ra, rep_bl rb, q _ H μ (.refl m) m rep_of_bl⟩
  · cases e
end FM

set_option autoImplicit false
/-! mirrors run step by step, what comes after waiting -/
namespace FM
open PySem PySem.Spec PyProof.Rows L2
def WE {α : Type} (r : R α) (Q : α → S → Prop) : Prop := ∃ a s, r = .ok a s ∧ Q a s
def WS (o : F) (N : FM.Env → S → Prop) (T : Val → S → Prop) : Prop := match o with
  | .nx ρ s => N ρ s
  | .rt v s => T v s
  | _ => False
def Opt {α : Type} (o : Option α) (Q : α → Prop) : Prop := ∃ a, o = some a ∧ Q a
def TopF (s : S) (Q : List Cell → S → Prop) : Prop := ∃ fr s2, s = fr :: s2 ∧ Q fr s2
def OptR {α : Type} (o : Option α) (Q : α → Prop) : Prop := ∃ a, o = some a ∧ Q a
section
variable {α β : Type} {ρ : FM.Env} {s : S} {N : FM.Env → S → Prop} {T : Val → S → Prop} {Q : Val → S → Prop} {QA : List Val → S → Prop} {QB : Bool → S → Prop}
theorem we_of {r : R α} {a : α} {s1 : S} {Q : α → S → Prop} (e : r = .ok a s1) (k : Q a s1) : WE r Q := ⟨a, s1, e, k⟩
theorem WE.mono {r : R α} {Q Q' : α → S → Prop} (h : WE r Q) (k : ∀ a s, Q a s → Q' a s) : WE r Q' := let ⟨a, s, e, q⟩ := h; ⟨a, s, e, k a s q⟩
theorem WE.eq {r : R α} {a : α} {s1 : S} (h : WE r fun x s2 => x = a ∧ s2 = s1) : r = .ok a s1 := by
  obtain ⟨_, _, e, rfl, rfl⟩ := h
  exact e
theorem opt_of {o : Option α} {a : α} {Q : α → Prop} (e : o = some a) (k : Q a) : Opt o Q := ⟨a, e, k⟩
theorem optR_of {o : Option α} {a : α} {Q : α → Prop} (e : o = some a) (k : Q a) : OptR o Q := ⟨a, e, k⟩
theorem we_ok {a : α} {Q : α → S → Prop} (k : Q a s) : WE (.ok a s) Q := ⟨a, s, rfl, k⟩
theorem we_bind {r : R α} {f : α → S → R β} {Q : β → S → Prop} (h : WE r fun a s1 => WE (f a s1) Q) : WE (r.bind f) Q := by
  obtain ⟨a, s1, rfl, b, s2, e, q⟩ := h
  exact ⟨b, s2, e, q⟩
theorem we_ofO {o : Option α} {Q : α → S → Prop} (h : Opt o fun a => Q a s) : WE (ofO o s) Q := by
  obtain ⟨a, rfl, q⟩ := h
  exact ⟨a, s, rfl, q⟩
theorem ws_seq {r : R α} {f : α → S → F} (h : WE r fun a s1 => WS (f a s1) N T) : WS (r.seq f) N T := by
  obtain ⟨a, s1, rfl, q⟩ := h
  exact q
theorem we_var {i : Nat} (h : OptR ρ[i]? fun o => OptR o fun v => Q v s) : WE (eVar i ρ s) Q := by
  obtain ⟨_, e, v, rfl, q⟩ := h
  exact ⟨v, s, by rw [run_var, e], q⟩
theorem we_c {v : Val} (h : Q v s) : WE (eC v ρ s) Q := ⟨v, s, rfl, h⟩
theorem we_op {f : S → Val → Val → Option Val} {a b : Ex} (h : WE (a ρ s) fun x s1 => WE (b ρ s1) fun y s2 => Opt (f s2 x y) fun z => Q z s2) : WE (eOp f a b ρ s) Q := by
  obtain ⟨x, s1, e1, y, s2, e2, z, e3, q⟩ := h
  exact ⟨z, s2, eOp_of e1 e2 e3, q⟩
theorem we_op1 {f : S → Val → Option Val} {a : Ex} (h : WE (a ρ s) fun x s1 => Opt (f s1 x) fun z => Q z s1) : WE (eOp1 f a ρ s) Q := we_bind (h.mono fun _ _ q => we_ofO q)
theorem we_nil (h : QA [] s) : WE (aNil ρ s) QA := ⟨_, _, rfl, h⟩
theorem we_cons {a : Ex} {r : Ax} (h : WE (a ρ s) fun x s1 => WE (r ρ s1) fun xs s2 => QA (x :: xs) s2) : WE (aCons a r ρ s) QA := we_bind (h.mono fun _ _ q => we_bind (q.mono fun _ _ q => we_ok q))
theorem we_star {a : Ex} {r : Ax} (h : WE (a ρ s) fun x s1 => Opt (asQ s1 x) fun xs => WE (r ρ s1) fun ys s2 => QA (xs ++ ys) s2) : WE (aStar a r ρ s) QA := we_bind (h.mono fun _ _ q => we_bind (we_ofO (let ⟨a, e, q⟩ := q; ⟨a, e, we_bind (q.mono fun _ _ q => we_ok q)⟩)))
theorem we_tup {a : Ax} (h : WE (a ρ s) fun xs s1 => Q (.tup xs) s1) : WE (eTup a ρ s) Q := we_bind (h.mono fun _ _ q => we_ok q)
theorem we_tupS {a : Ax} (h : WE (a ρ s) fun xs s1 => xs.length < 100000 ∧ Q (.tup xs) s1) : WE (eTupS a ρ s) Q := we_bind (h.mono fun _ s1 q => by
  show WE (if _ then _ else _) _
  rw [if_pos (by rw [sizeLine_eq]; have := q.1; omega)]; exact we_ok q.2)
theorem we_if {c : Tx} {a b : Ex} (h : WE (c ρ s) fun t s1 => (t = true → WE (a ρ s1) Q) ∧ (t = false → WE (b ρ s1) Q)) : WE (eIf c a b ρ s) Q := we_bind (h.mono fun t _ q => by
  cases t with
  | true => exact q.1 rfl
  | false => exact q.2 rfl)
theorem we_not {a : Ex} (h : WE (a ρ s) fun x s1 => ∃ b, x = .bl b ∧ Q (.bl (!b)) s1) : WE (eNot a ρ s) Q := we_bind (h.mono fun _ _ ⟨b, e, q⟩ => by subst e; exact we_ok q)
theorem we_and {a b : Ex} (h : WE (a ρ s) fun x s1 => ∃ t, x = .bl t ∧ (t = true → WE (b ρ s1) Q) ∧ (t = false → Q (.bl false) s1)) : WE (eAnd a b ρ s) Q := we_bind (h.mono fun _ _ ⟨t, e, q1, q2⟩ => by
  subst e
  cases t with
  | true => exact q1 rfl
  | false => exact we_ok (q2 rfl))
theorem we_or {a b : Ex} (h : WE (a ρ s) fun x s1 => ∃ t, x = .bl t ∧ (t = true → Q (.bl true) s1) ∧ (t = false → WE (b ρ s1) Q)) : WE (eOr a b ρ s) Q := we_bind (h.mono fun _ _ ⟨t, e, q1, q2⟩ => by
  subst e
  cases t with
  | true => exact we_ok (q1 rfl)
  | false => exact q2 rfl)
theorem we_isN {a : Ex} (h : WE (a ρ s) fun x s1 => Q (.bl (isN x)) s1) : WE (eIsN a ρ s) Q := we_bind (h.mono fun _ _ q => we_ok q)
theorem we_notN {a : Ex} (h : WE (a ρ s) fun x s1 => Q (.bl (!isN x)) s1) : WE (eNotN a ρ s) Q := we_bind (h.mono fun _ _ q => we_ok q)
theorem we_chain {f g : S → Val → Val → Option Val} {a b c : Ex} (h : WE (a ρ s) fun x s1 => WE (b ρ s1) fun y s2 => Opt (f s2 x y) fun t => ∃ t', t = .bl t' ∧ (t' = true → WE (c ρ s2) fun z s4 => Opt (g s4 y z) fun w => Q w s4) ∧ (t' = false → Q (.bl false) s2)) : WE (eChain f g a b c ρ s) Q :=
  we_bind (h.mono fun _ _ q => we_bind (q.mono fun _ _ q => we_bind (we_ofO (let ⟨t, e, t', e', q1, q2⟩ := q; ⟨t, e, by
    subst e'
    cases t' with
    | true => exact we_bind ((q1 rfl).mono fun _ _ q => we_ofO q)
    | false => exact we_ok (q2 rfl)⟩))))
theorem we_call {f : S → List Val → Option Val} {a : Ax} (h : WE (a ρ s) fun xs s1 => Opt (f s1 xs) fun v => Q v s1) : WE (eCall f a ρ s) Q := we_bind (h.mono fun _ _ q => we_ofO q)
theorem wo_none {Q : Option Int → S → Prop} (h : Q none s) : WE (oNone ρ s) Q := ⟨_, _, rfl, h⟩
theorem wo_some {a : Ex} {Q : Option Int → S → Prop} (h : WE (a ρ s) fun x s1 => ∃ i, x = .int i ∧ Q (some i) s1) : WE (oSome a ρ s) Q := we_bind (h.mono fun _ _ ⟨i, e, q⟩ => by subst e; exact we_ok q)
theorem eSlT_of' {a : Ex} {lo hi : Ox} {s1 s2 s3 : S} {xs : List Val} {l h : Option Int} (e : a ρ s = .ok (.tup xs) s1) (el : lo ρ s1 = .ok l s2) (eh : hi ρ s2 = .ok h s3) : eSlT a lo hi ρ s = .ok (.tup (cutL xs l h)) s3 := by rw [run_slT, e, bind_ok, el, bind_ok, eh, bind_ok]
theorem we_slT {a : Ex} {lo hi : Ox} (h : WE (a ρ s) fun x s1 => WE (lo ρ s1) fun l s2 => WE (hi ρ s2) fun h s3 => ∃ xs, x = .tup xs ∧ Q (.tup (cutL xs l h)) s3) : WE (eSlT a lo hi ρ s) Q := by
  obtain ⟨x, s1, e1, l, s2, e2, h', s3, e3, xs, rfl, q⟩ := h
  exact ⟨_, _, eSlT_of' e1 e2 e3, q⟩
theorem we_sl {a : Ex} {lo hi : Ox} (h : WE (a ρ s) fun x s1 => WE (lo ρ s1) fun l s2 => WE (hi ρ s2) fun h s3 => Opt (asL s3 x) fun xs => QA (cutL xs l h) s3) : WE (fSl a lo hi ρ s) QA := we_bind (h.mono fun _ _ q => we_bind (q.mono fun _ _ q => we_bind (q.mono fun _ _ ⟨xs, e, q⟩ => by rw [e]; exact we_ok q)))
theorem we_tval {a : Ex} (h : WE (a ρ s) fun x s1 => ∃ b, x = .bl b ∧ QB b s1) : WE (tVal a ρ s) QB := we_bind (h.mono fun _ _ ⟨b, e, q⟩ => by subst e; exact we_ok q)
theorem we_tand {a b : Tx} (h : WE (a ρ s) fun t s1 => (t = true → WE (b ρ s1) QB) ∧ (t = false → QB false s1)) : WE (tAnd a b ρ s) QB := we_bind (h.mono fun t _ q => by
  cases t with
  | true => exact q.1 rfl
  | false => exact we_ok (q.2 rfl))
theorem we_tor {a b : Tx} (h : WE (a ρ s) fun t s1 => (t = true → QB true s1) ∧ (t = false → WE (b ρ s1) QB)) : WE (tOr a b ρ s) QB := we_bind (h.mono fun t _ q => by
  cases t with
  | true => exact we_ok (q.1 rfl)
  | false => exact q.2 rfl)
theorem we_tnot {a : Tx} (h : WE (a ρ s) fun t s1 => QB (!t) s1) : WE (tNot a ρ s) QB := we_bind (h.mono fun _ _ q => we_ok q)
theorem we_tyes (h : QB true s) : WE (tYes ρ s) QB := ⟨_, _, rfl, h⟩
theorem we_tif {c a b : Tx} (h : WE (c ρ s) fun t s1 => (t = true → WE (a ρ s1) QB) ∧ (t = false → WE (b ρ s1) QB)) : WE (tIfT c a b ρ s) QB := we_bind (h.mono fun t _ q => by
  cases t with
  | true => exact q.1 rfl
  | false => exact q.2 rfl)
theorem we_seq {a : Ex} {Q : List Val × (S → Bool) → S → Prop} (h : WE (a ρ s) fun x s1 => Opt (asQ s1 x) fun xs => Q (xs, still x xs) s1) : WE (iSeq a ρ s) Q := we_bind (h.mono fun _ _ ⟨xs, e, q⟩ => by rw [e]; exact we_ok q)
theorem we_range1 {a : Ex} {Q : List Val × (S → Bool) → S → Prop} (h : WE (a ρ s) fun x s1 => ∃ n : Int, x = .int n ∧ -1000 ≤ n ∧ n ≤ 100000 ∧ Q (rangeV 0 n.toNat, fun _ => true) s1) : WE (iRange1 a ρ s) Q := we_bind (h.mono fun _ s1 ⟨n, e, h0, h1, q⟩ => by
  subst e
  show WE (if _ then _ else _) _
  rw [if_pos (by rw [sizeLine_eq]; omega)]; exact we_ok q)
theorem we_range {a : Ex} (h : WE (a ρ s) fun x s1 => ∃ n : Int, x = .int n ∧ -1000 ≤ n ∧ n ≤ 100000 ∧ QA (rangeV 0 n.toNat) s1) : WE (fRange a ρ s) QA := we_bind (h.mono fun _ s1 ⟨n, e, h0, h1, q⟩ => by
  subst e
  show WE (if _ then _ else _) _
  rw [if_pos (by rw [sizeLine_eq]; omega)]; exact we_ok q)
theorem we_enum {a : Ex} {Q : List Val × (S → Bool) → S → Prop} (h : WE (a ρ s) fun x s1 => Opt (asQ s1 x) fun xs => Q ((xs.zipIdx).map fun p => .tup [.int p.2, p.1], still x xs) s1) : WE (FM.iEnum a ρ s) Q := we_bind (h.mono fun _ _ ⟨xs, e, q⟩ => by rw [e]; exact we_ok q)
theorem we_comp {it : Ix} {own : List Nat} {g : Gx} {t : Tx} {e : Ex} (h : WE (it ρ s) fun p s1 => WE (compL p.2 g t e (FM.wipe ρ own) p.1 [] s1) QA) : WE (fComp it own g t e ρ s) QA := we_bind (h.mono fun _ _ q => by
  obtain ⟨a, s2, e, q⟩ := q
  show WE (R.nox _) _
  rw [e]; exact we_ok q)
theorem we_lst {a : Ax} (h : WE (a ρ s) QA) : WE (fLst a ρ s) QA := h
theorem we_list {a : Ex} (h : WE (a ρ s) fun x s1 => Opt (asQ s1 x) fun xs => QA xs s1) : WE (fList a ρ s) QA := we_bind (h.mono fun _ _ ⟨xs, e, q⟩ => by rw [e]; exact we_ok q)
theorem we_add {a b : Ex} (h : WE (a ρ s) fun x s1 => WE (b ρ s1) fun y s2 => Opt (asLn s2 x) fun xs => Opt (asLn s2 y) fun ys => xs.length + ys.length < 100000 ∧ QA (xs ++ ys) s2) : WE (fAdd a b ρ s) QA := we_bind (h.mono fun _ _ q => we_bind (q.mono fun _ s2 ⟨xs, e1, ys, e2, l, q⟩ => by
  rw [e1, e2]
  show WE (if _ then _ else _) _
  rw [if_pos (by rw [sizeLine_eq]; omega)]; exact we_ok q))
theorem we_dead {f : Fx} (h : WE (f ρ s) fun xs s1 => Q (.lst xs) s1) : WE (eDead f ρ s) Q := we_bind (h.mono fun _ _ q => we_ok q)
theorem we_tupF {f : Fx} (h : WE (f ρ s) fun xs s1 => Q (.tup xs) s1) : WE (eTupleF f ρ s) Q := we_bind (h.mono fun _ _ q => we_ok q)
theorem we_live {f : Fx} (h : WE (f ρ s) fun xs s1 => TopF s1 fun fr s2 => Q (.ref s2.length fr.length) ((fr ++ [.lst xs]) :: s2)) : WE (eLive f ρ s) Q := we_bind (h.mono fun _ _ ⟨fr, s2, e, q⟩ => by subst e; exact we_ok q)
theorem we_meth {f : S → Val → List Val → Option Val} {o : Ex} {a : Ax} (h : WE (o ρ s) fun x s1 => (asL s1 x).isSome = true ∧ WE (a ρ s1) fun xs s2 => Opt (f s2 x xs) fun v => Q v s2) : WE (eMeth f o a ρ s) Q := we_bind (h.mono fun _ _ ⟨e, q⟩ => by
  rw [if_pos e]; exact we_bind (q.mono fun _ _ q => we_ofO q))
theorem we_chg {f : S → List Val → List Val → Option (List Val)} {o : Ex} {a : Ax} (h : WE (o ρ s) fun x s1 => isL s1 x = true ∧ WE (a ρ s1) fun xs s2 => WE (chg s2 x (f s2 xs) xs) Q) : WE (eChg f o a ρ s) Q := we_bind (h.mono fun _ _ ⟨e, q⟩ => by
  rw [if_pos e]; exact we_bind q)
def Ret.v? : Ret → Option Val
  | .val v => some v
  | .cell (.lst ys) => some (.lst ys)
  | _ => none
theorem we_fn {f : Fn} {a : Ax} (h : WE (a ρ s) fun xs s1 => WE (f xs s1) fun r s2 => OptR r.v? fun v => Q v s2) : WE (eFn f a ρ s) Q := we_bind (h.mono fun _ _ q => we_bind (q.mono fun r s2 ⟨v, e, q⟩ => by
  cases r with
  | val w => cases e; exact we_ok q
  | cell c =>
    cases c with
    | lst ys => cases e; exact we_ok q
    | dct a b => cases e))
theorem we_fnL {f : Fn} {a : Ax} (h : WE (a ρ s) fun xs s1 => WE (f xs s1) fun r s2 => match r with
  | .val v => Q v s2
  | .cell (.lst ys) => TopF s2 fun fr s3 => Q (.ref s3.length fr.length) ((fr ++ [.lst ys]) :: s3)
  | _ => False) : WE (eFnL f a ρ s) Q := we_bind (h.mono fun _ _ q => we_bind (q.mono fun r s2 q => by
  cases r with
  | val w => exact we_ok q
  | cell c =>
    cases c with
    | lst ys => obtain ⟨fr, s3, rfl, q⟩ := q; exact we_ok q
    | dct a b => exact q.elim))
theorem we_altL {m n : Ex} (h : WE (m ρ s) Q) : WE (eAlt m n ρ s) Q := by
  obtain ⟨v, s1, e, q⟩ := h
  exact ⟨v, s1, by rw [run_alt, e], q⟩
theorem we_isi {f : Val → Option Bool} {a : Ex} (h : WE (a ρ s) fun v s1 => OptR (f v) fun b => Q (.bl b) s1) : WE (eIsi f a ρ s) Q := we_bind (h.mono fun _ _ q => we_ofO (by
  obtain ⟨b, e, q⟩ := q
  exact ⟨.bl b, by rw [e]; rfl, q⟩))
theorem ws_nil (h : N ρ s) : WS (sNil ρ s) N T := h
theorem ws_cons {a r : Sx} (h : WS (a ρ s) (fun ρ1 s1 => WS (r ρ1 s1) N T) T) : WS (sCons a r ρ s) N T := by
  show WS ((a ρ s).then r) N T
  revert h
  cases a ρ s <;> exact id
theorem ws_asg {e : Ex} {i : Nat} (h : WE (e ρ s) fun v s1 => N (ρ.set i (some v)) s1) : WS (sAsg e (FM.gName i) ρ s) N T := ws_seq (h.mono fun _ _ q => q)
theorem ws_asgT {e : Ex} {g : Gx} (h : WE (e ρ s) fun v s1 => OptR (g v ρ) fun ρ1 => N ρ1 s1) : WS (sAsg e g ρ s) N T := ws_seq (h.mono fun _ _ ⟨_, e, q⟩ => by rw [e]; exact q)
theorem ws_par {i j : Nat} {a b : Ex} (h : WE (a ρ s) fun x s1 => WE (b ρ s1) fun y s2 => N ((ρ.set i (some x)).set j (some y)) s2) : WS (sPar i j a b ρ s) N T := ws_seq (h.mono fun _ _ q => ws_seq (q.mono fun _ _ q => q))
theorem ws_expr {e : Ex} (h : WE (e ρ s) fun _ s1 => N ρ s1) : WS (sExpr e ρ s) N T := ws_seq (h.mono fun _ _ q => q)
theorem ws_ret {e : Ex} (h : WE (e ρ s) T) : WS (sRet e ρ s) N T := ws_seq (h.mono fun _ _ q => q)
theorem ws_if {c : Tx} {a b : Sx} (h : WE (c ρ s) fun t s1 => (t = true → WS (a ρ s1) N T) ∧ (t = false → WS (b ρ s1) N T)) : WS (sIf c a b ρ s) N T := ws_seq (h.mono fun t _ q => by
  cases t with
  | true => exact q.1 rfl
  | false => exact q.2 rfl)
theorem ws_for {it : Ix} {g : Gx} {b : Sx} (h : WE (it ρ s) fun p s1 => WS (forL p.2 g b p.1 ρ s1) N T) : WS (sFor it g b ρ s) N T := ws_seq (h.mono fun _ _ q => q)
theorem WS.mono {o : F} {N' : FM.Env → S → Prop} {T' : Val → S → Prop} (h : WS o N T) (k : ∀ ρ s, N ρ s → N' ρ s) (k' : ∀ v s, T v s → T' v s) : WS o N' T' := by
  cases o <;> first | exact k _ _ h | exact k' _ _ h | exact h
/-- a loop, by what stays so -/
theorem ws_forL {keep : S → Bool} {g : Gx} {b : Sx} (I : List Val → FM.Env → S → Prop) (h : ∀ x xs ρ s, I (x :: xs) ρ s → keep s = true ∧ OptR (g x ρ) fun ρ1 => WS (b ρ1 s) (I xs) T) (hn : ∀ ρ s, I [] ρ s → keep s = true ∧ N ρ s) :
    ∀ (xs : List Val) (ρ : FM.Env) (s : S), I xs ρ s → WS (forL keep g b xs ρ s) N T
  | [], ρ, s, i => by
    obtain ⟨k, n⟩ := hn ρ s i
    show WS (if _ then _ else _) N T
    rw [if_pos k]; exact n
  | x :: xs, ρ, s, i => by
    obtain ⟨k, ρ1, e, w⟩ := h x xs ρ s i
    unfold forL
    rw [if_pos k, e]
    show WS (match b ρ1 s with | .nx ρ2 s2 => _ | .ct ρ2 s2 => _ | .bk ρ2 s2 => _ | .rt v s2 => _ | .ex e s2 => _ | .no => _) N T
    revert w
    cases b ρ1 s <;> intro w <;> first | exact ws_forL I h hn xs _ _ w | exact w | exact w.elim
/-- a comprehension, by what stays so -/
theorem we_compL {keep : S → Bool} {g : Gx} {t : Tx} {e : Ex} (I : List Val → List Val → S → Prop) (h : ∀ x xs acc s, I (x :: xs) acc s → keep s = true ∧ OptR (g x ρ) fun ρ1 => WE (t ρ1 s) fun b s1 => (b = true → WE (e ρ1 s1) fun y s2 => I xs (acc ++ [y]) s2) ∧ (b = false → I xs acc s1)) (hn : ∀ acc s, I [] acc s → keep s = true ∧ QA acc s) :
    ∀ (xs acc : List Val) (s : S), I xs acc s → WE (compL keep g t e ρ xs acc s) QA
  | [], acc, s, i => by
    obtain ⟨k, n⟩ := hn acc s i
    show WE (if _ then _ else _) QA
    rw [if_pos k]; exact we_ok n
  | x :: xs, acc, s, i => by
    obtain ⟨k, ρ1, e1, w⟩ := h x xs acc s i
    unfold compL
    rw [if_pos k, e1]
    refine we_bind (w.mono fun b s1 q => ?_)
    cases b with
    | true => exact we_bind ((q.1 rfl).mono fun y s2 i2 => we_compL I h hn xs _ _ i2)
    | false => exact we_compL I h hn xs _ _ (q.2 rfl)
/-- a comprehension whose parts change nothing -/
theorem we_pick {α : Type} {keep : S → Bool} {g : Gx} {t : Tx} {e : Ex} {xs : List Val} (f : α → Val) (p : α → Bool) (h : α → Val) (l : List α) (ex : xs = l.map f) (hk : keep s = true)
    (H : ∀ x ∈ l, OptR (g (f x) ρ) fun ρ1 => WE (t ρ1 s) fun b s1 => b = p x ∧ s1 = s ∧ (p x = true → WE (e ρ1 s) fun y s2 => y = h x ∧ s2 = s)) (k : QA ((l.filter p).map h) s) : WE (compL keep g t e ρ xs [] s) QA := by
  subst ex
  refine ⟨_, _, compL_pick f p h hk l fun x hx => ?_, k⟩
  obtain ⟨ρ1, e1, b, s1, e2, rfl, rfl, q⟩ := H x hx
  exact ⟨ρ1, e1, e2, fun hp => (q hp).eq⟩
end
theorem topF_of {fr : List Cell} {s : S} {Q : List Cell → S → Prop} (h : Q fr s) : TopF (fr :: s) Q := ⟨fr, s, rfl, h⟩
theorem opt_ix {s : S} {x y : Val} {Q : Val → Prop} (h : OptR (opIx s x y) Q) : Opt (opIx s x y) Q := h
theorem opt_asQ {s : S} {x : Val} {Q : List Val → Prop} (h : OptR (asQ s x) Q) : Opt (asQ s x) Q := h
theorem opt_asL {s : S} {x : Val} {Q : List Val → Prop} (h : OptR (asL s x) Q) : Opt (asL s x) Q := h
theorem opt_asLn {s : S} {x : Val} {Q : List Val → Prop} (h : OptR (asLn s x) Q) : Opt (asLn s x) Q := h
theorem opt_eqs {s : S} {a b : PySem.Str} {Q : Val → Prop} (h : Q (.bl (decide (a = b)))) : Opt (opEq s (.str a) (.str b)) Q := ⟨_, rfl, h⟩
theorem opt_nes {s : S} {a b : PySem.Str} {Q : Val → Prop} (h : Q (.bl (!decide (a = b)))) : Opt (opNe s (.str a) (.str b)) Q := ⟨_, rfl, h⟩
theorem opt_int {s : S} {i : Int} {Q : Val → Prop} (h : Q (.int i)) : Opt (bInt s [.int i]) Q := ⟨_, rfl, h⟩
theorem opt_tuple {s : S} {x : Val} {Q : Val → Prop} (h : OptR (asQ s x) fun xs => Q (.tup xs)) : Opt (bTuple s [x]) Q := by
  obtain ⟨xs, e, q⟩ := h
  exact ⟨_, by show (asQ s x).map _ = _; rw [e]; rfl, q⟩
theorem opt_len {s : S} {x : Val} {Q : Val → Prop} (h : OptR (asQ s x) fun xs => Q (.int xs.length)) : Opt (bLen s [x]) Q := by
  obtain ⟨xs, e, q⟩ := h
  refine ⟨_, ?_, q⟩
  cases x <;> first | (simp only [bLen, e]; rfl) | (simp [asQ, asL] at e)
theorem opt_addt {s : S} {a b : List Val} {Q : Val → Prop} (hl : a.length + b.length < 100000) (h : Q (.tup (a ++ b))) : Opt (opAdd s (.tup a) (.tup b)) Q := ⟨_, by
  show (if _ then _ else _) = _
  rw [if_pos (by rw [sizeLine_eq]; omega)], h⟩
theorem opt_is {s : S} {a b : Bool} {Q : Val → Prop} (h : Q (.bl (decide (a = b)))) : Opt (opIs s (.bl a) (.bl b)) Q := ⟨_, rfl, h⟩
theorem we_nox {α : Type} {r : R α} {Q : α → S → Prop} (h : WE r Q) : WE r.nox Q := by
  obtain ⟨a, s, rfl, q⟩ := h
  exact ⟨a, s, rfl, q⟩
/-- the picks of a local function -/
theorem we_lot {α : Type} {ρ : FM.Env} {s : S} {ma ml : Ex} {mi : Ix} {js : List Nat} {nl : Nat} {Q : Val → S → Prop} (f : α → Val) (p : α → Bool) (l : List α)
    (h : WE (ma ρ s) fun v s1 => WE (mi [some v, none, none] s1) fun q s2 => s2 = s1 ∧ q.1 = l.map f ∧ q.2 s1 = true ∧ (∀ x ∈ l, WE (ml (some (f x) :: (js.map (fun t => (ρ[t]?).join) ++ List.replicate nl none)) s1) fun y s3 => y = .bl (p x) ∧ s3 = s1) ∧ Q (.tup ((l.filter p).map f)) s1) : WE (eLot ma mi js ml nl ρ s) Q := by
  refine we_bind (h.mono fun v s1 q => we_nox (we_tupF (we_comp (q.mono fun q s2 ⟨e0, e1, e2, e3, e4⟩ => ?_))))
  subst e0
  refine we_pick f p f l e1 e2 (fun x hx => ?_) e4
  refine optR_of rfl ?_
  have e5 := (e3 x hx).eq
  have e6 : tLam ρ js ml nl 2 ((FM.wipe [some v, none, none] [2]).set 2 (some (f x))) s2 = .ok (p x) s2 := by
    show (ml (some (f x) :: (js.map (fun t => (ρ[t]?).join) ++ List.replicate nl none)) s2).nox.bind _ = _
    rw [e5]; rfl
  refine we_of e6 ⟨rfl, rfl, fun _ => ?_⟩
  exact ⟨f x, s2, rfl, rfl, rfl⟩
theorem we_append {e : Ex} {ρ : FM.Env} {i n L : Nat} {fr : List Cell} {s : S} {xs : List Val} {Q : Val → S → Prop} (hL : s.length = L) (hi : ρ[i]? = some (some (.ref L n))) (hn : fr[n]? = some (.lst xs)) (hl : xs.length < 100000)
    (h : WE (e ρ (fr :: s)) fun v s1 => ∃ s', s1 = fr :: s' ∧ s'.length = L ∧ Q .non (fr.set n (.lst (xs ++ [v])) :: s')) : WE (eChg cAppend (eVar i) (aCons e aNil) ρ (fr :: s)) Q := by
  obtain ⟨v, s1, e1, s', rfl, l', q⟩ := h
  refine ⟨_, _, ?_, q⟩
  have ea : aCons e aNil ρ (fr :: s) = .ok [v] (fr :: s') := aCons_of e1 rfl
  have ev : eVar i ρ (fr :: s) = .ok (.ref L n) (fr :: s) := by rw [run_var, hi]
  have el : isL (fr :: s) (.ref L n) = true := by unfold isL; subst hL; simp only [asL, lk_top, hn]; rfl
  rw [run_chg, ev, bind_ok, el, if_pos rfl, ea, bind_ok, app_top l'.symm hn hl]
theorem asQ_top {L n : Nat} {fr : List Cell} {s : S} {xs : List Val} (hL : s.length = L) (hn : fr[n]? = some (.lst xs)) : asQ (fr :: s) (.ref L n) = some xs := by
  subst hL; simp only [asQ, asL, lk_top, hn]
end FM

local macro_rules | `(tactic| walk_at "my wp") => `(tactic| (((repeat (first | with_reducible refine FM.ws_cons ?_ | with_reducible refine FM.ws_nil ?_ | with_reducible refine FM.ws_asg ?_ | with_reducible refine FM.ws_asgT ?_ | with_reducible refine FM.ws_par ?_ | with_reducible refine FM.ws_expr ?_ | with_reducible refine FM.ws_ret ?_ | with_reducible refine FM.ws_if ?_ | with_reducible refine FM.ws_for ?_ | with_reducible refine FM.we_var ?_ | with_reducible refine FM.we_c ?_ | with_reducible refine FM.we_op ?_ | with_reducible refine FM.we_op1 ?_ | with_reducible refine FM.we_nil ?_ | with_reducible refine FM.we_cons ?_ | with_reducible refine FM.we_star ?_ | with_reducible refine FM.we_tup ?_ | with_reducible refine FM.we_tupS ?_ | with_reducible refine FM.we_if ?_ | with_reducible refine FM.we_not ?_ | with_reducible refine FM.we_and ?_ | with_reducible refine FM.we_or ?_ | with_reducible refine FM.we_isN ?_ | with_reducible refine FM.we_notN ?_ | with_reducible refine FM.we_chain ?_ | with_reducible refine FM.we_call ?_ | with_reducible refine FM.wo_none ?_ | with_reducible refine FM.wo_some ?_ | with_reducible refine FM.we_slT ?_ | with_reducible refine FM.we_sl ?_ | with_reducible refine FM.we_tval ?_ | with_reducible refine FM.we_tand ?_ | with_reducible refine FM.we_tor ?_ | with_reducible refine FM.we_tnot ?_ | with_reducible refine FM.we_tyes ?_ | with_reducible refine FM.we_tif ?_ | with_reducible refine FM.we_seq ?_ | with_reducible refine FM.we_range1 ?_ | with_reducible refine FM.we_range ?_ | with_reducible refine FM.we_enum ?_ | with_reducible refine FM.we_comp ?_ | with_reducible refine FM.we_lst ?_ | with_reducible refine FM.we_list ?_ | with_reducible refine FM.we_add ?_ | with_reducible refine FM.we_dead ?_ | with_reducible refine FM.we_tupF ?_ | with_reducible refine FM.topF_of ?_ | with_reducible refine FM.we_live ?_ | with_reducible refine FM.we_meth ?_ | with_reducible refine FM.we_fn ?_ | with_reducible refine FM.we_fnL ?_ | with_reducible refine FM.we_isi ?_ | with_reducible refine FM.opt_of (FM.opEq_int _ _ _) ?_ | with_reducible refine FM.opt_of (FM.opNe_int _ _ _) ?_ | with_reducible refine FM.opt_of (FM.opLt_int _ _ _) ?_ | with_reducible refine FM.opt_of (FM.opLe_int _ _ _) ?_ | with_reducible refine FM.opt_of (FM.opGt_int _ _ _) ?_ | with_reducible refine FM.opt_of (FM.opGe_int _ _ _) ?_ | with_reducible refine FM.opt_of (FM.opAdd_int _ _ _) ?_ | with_reducible refine FM.opt_of (FM.opSub_int _ _ _) ?_ | with_reducible refine FM.opt_of (FM.opNeg_int _ _) ?_ | with_reducible refine FM.opt_eqs ?_ | with_reducible refine FM.opt_nes ?_ | with_reducible refine FM.opt_is ?_ | with_reducible refine FM.opt_int ?_ | with_reducible refine FM.opt_ix ?_ | with_reducible refine FM.opt_asQ ?_ | with_reducible refine FM.opt_asL ?_ | with_reducible refine FM.opt_asLn ?_ | with_reducible refine FM.opt_tuple ?_ | with_reducible refine FM.opt_len ?_ | refine FM.optR_of rfl ?_ | with_reducible refine ⟨_, rfl, ?_⟩)); (try simp only [FM.wipe, List.map_cons, List.map_nil, List.nil_append, List.cons_append, List.length_cons, List.length_nil, Nat.zero_add, Nat.reduceAdd, List.set_cons_zero, List.set_cons_succ]))))
local macro_rules | `(tactic| walk_at "my wq") => `(tactic| (((repeat ((fail_if_success (first | with_reducible refine FM.we_if ?_ | with_reducible refine FM.we_and ?_ | with_reducible refine FM.we_or ?_)); (first | with_reducible refine FM.ws_cons ?_ | with_reducible refine FM.ws_nil ?_ | with_reducible refine FM.ws_asg ?_ | with_reducible refine FM.ws_asgT ?_ | with_reducible refine FM.ws_par ?_ | with_reducible refine FM.ws_expr ?_ | with_reducible refine FM.ws_ret ?_ | with_reducible refine FM.ws_if ?_ | with_reducible refine FM.ws_for ?_ | with_reducible refine FM.we_var ?_ | with_reducible refine FM.we_c ?_ | with_reducible refine FM.we_op ?_ | with_reducible refine FM.we_op1 ?_ | with_reducible refine FM.we_nil ?_ | with_reducible refine FM.we_cons ?_ | with_reducible refine FM.we_star ?_ | with_reducible refine FM.we_tup ?_ | with_reducible refine FM.we_tupS ?_ | with_reducible refine FM.we_if ?_ | with_reducible refine FM.we_not ?_ | with_reducible refine FM.we_and ?_ | with_reducible refine FM.we_or ?_ | with_reducible refine FM.we_isN ?_ | with_reducible refine FM.we_notN ?_ | with_reducible refine FM.we_chain ?_ | with_reducible refine FM.we_call ?_ | with_reducible refine FM.wo_none ?_ | with_reducible refine FM.wo_some ?_ | with_reducible refine FM.we_slT ?_ | with_reducible refine FM.we_sl ?_ | with_reducible refine FM.we_tval ?_ | with_reducible refine FM.we_tand ?_ | with_reducible refine FM.we_tor ?_ | with_reducible refine FM.we_tnot ?_ | with_reducible refine FM.we_tyes ?_ | with_reducible refine FM.we_tif ?_ | with_reducible refine FM.we_seq ?_ | with_reducible refine FM.we_range1 ?_ | with_reducible refine FM.we_range ?_ | with_reducible refine FM.we_enum ?_ | with_reducible refine FM.we_comp ?_ | with_reducible refine FM.we_lst ?_ | with_reducible refine FM.we_list ?_ | with_reducible refine FM.we_add ?_ | with_reducible refine FM.we_dead ?_ | with_reducible refine FM.we_tupF ?_ | with_reducible refine FM.topF_of ?_ | with_reducible refine FM.we_live ?_ | with_reducible refine FM.we_meth ?_ | with_reducible refine FM.we_fn ?_ | with_reducible refine FM.we_fnL ?_ | with_reducible refine FM.we_isi ?_ | with_reducible refine FM.opt_of (FM.opEq_int _ _ _) ?_ | with_reducible refine FM.opt_of (FM.opNe_int _ _ _) ?_ | with_reducible refine FM.opt_of (FM.opLt_int _ _ _) ?_ | with_reducible refine FM.opt_of (FM.opLe_int _ _ _) ?_ | with_reducible refine FM.opt_of (FM.opGt_int _ _ _) ?_ | with_reducible refine FM.opt_of (FM.opGe_int _ _ _) ?_ | with_reducible refine FM.opt_of (FM.opAdd_int _ _ _) ?_ | with_reducible refine FM.opt_of (FM.opSub_int _ _ _) ?_ | with_reducible refine FM.opt_of (FM.opNeg_int _ _) ?_ | with_reducible refine FM.opt_eqs ?_ | with_reducible refine FM.opt_nes ?_ | with_reducible refine FM.opt_is ?_ | with_reducible refine FM.opt_int ?_ | with_reducible refine FM.opt_ix ?_ | with_reducible refine FM.opt_asQ ?_ | with_reducible refine FM.opt_asL ?_ | with_reducible refine FM.opt_asLn ?_ | with_reducible refine FM.opt_tuple ?_ | with_reducible refine FM.opt_len ?_ | refine FM.optR_of rfl ?_ | with_reducible refine ⟨_, rfl, ?_⟩))); (try simp only [FM.wipe, List.map_cons, List.map_nil, List.nil_append, List.cons_append, List.length_cons, List.length_nil, Nat.zero_add, Nat.reduceAdd, List.set_cons_zero, List.set_cons_succ]))))
local macro_rules | `(tactic| walk_at "my wp0") => `(tactic| (simp only [List.map_cons, List.map_nil, List.replicate, Nat.reduceSub, List.cons_append, List.nil_append]))
local macro_rules | `(tactic| walk_at "my wpT") => `(tactic| (refine ⟨fun _ => ?_, fun z => absurd z (by first | (simp [FM.isN]; done) | decide +kernel)⟩))
local macro_rules | `(tactic| walk_at "my wpF") => `(tactic| (refine ⟨fun z => absurd z (by first | (simp [FM.isN]; done) | decide +kernel), fun _ => ?_⟩))

set_option autoImplicit false
/-! sorted of data, from a list or a tuple -/
namespace FM
open PySem PySem.Spec PyProof.Rows PySem.W PySem.Calls
section
variable {prog : Program} {w : World} {A : Around} {E : Value → Shared → Prop} {s : Shared} {β : Type} {vs : List Value} {bs : List β} {R : Value → β → Prop} {enc : β → PyData}
theorem collect_tup {l : Addr} {Q : List Value → Shared → Prop} (hl : s.heap.IsTuple l vs.toArray)
    (h : Q vs { s with heap := (s.heap.push (seqObj "list" #[] 0)).update s.heap.objs.size (Obj.mapSeq (· ++ vs.toArray)) }) (hsz : vs.length ≤ sizeLine) :
    wpAny (model prog w) A (collect (.ref l)) Q E s := by
  obtain ⟨o, ho, hc, n, hd⟩ := id hl
  unfold collect
  refine wpAny_bind (wpAny_runValue (codeAny_builtin entry_proto_collect' ?_))
  show wpAny _ _ (do again (.builtin "list.__iadd__" ⟨[← newList [], .ref l], []⟩)) _ _ s
  refine wpAny_bind (wpAny_newList (wpAny_pure ⟨Code.quiet_builtin _ (by decide +kernel), codeAny_builtin entry_list_iadd' ?_⟩))
  show wpAny _ _ (Builtin.List.listExtendWith (.ref s.heap.objs.size) (.ref l) (.ref s.heap.objs.size)) _ _ { s with heap := s.heap.push (seqObj "list" #[] 0) }
  unfold Builtin.List.listExtendWith
  have ho' : (s.heap.push (seqObj "list" #[] 0)).get? l = some o := Heap.get?_push_of_some _ ho
  refine wpAny_bind (wpAny_typeOf (T := "tuple") ⟨o, ho', hc⟩ ?_)
  have ht : (Value.type "tuple" == Value.type "tuple") = true := by rfl
  rw [if_pos (by rw [ht]; simp)]
  refine wpAny_bind (listItems_at ho' hd ?_)
  refine wpAny_bind (listItems_at (xs := #[]) (n := 0) (Heap.get?_push_size _ rfl) rfl ?_)
  rw [if_neg (by simp)]
  refine wpAny_bind (listUpdate_at (xs := #[]) (n := 0) (Heap.get?_push_size _ rfl) rfl ?_ (Nat.zero_le _) (by show (#[] ++ vs.toArray).size ≤ sizeLine + 1; simp only [Array.size_append, List.size_toArray, List.length_nil]; omega))
  refine wpAny_pure ?_
  show wpAny (model prog w) A (do
      let o ← load s.heap.objs.size
      match o.data with
      | .seq xs _ => Pure.pure xs.toList
      | _ => unsupported "internal:collect") Q E { s with heap := (s.heap.push (seqObj "list" #[] 0)).update s.heap.objs.size (Obj.mapSeq (· ++ vs.toArray)) }
  refine wpAny_bind (wpAny_load (get?_update_seq (Heap.get?_push_size _ rfl) _) ?_)
  show wpAny _ _ (Pure.pure ((#[] : Array Value) ++ vs.toArray).toList) Q E _
  rw [show ((#[] : Array Value) ++ vs.toArray).toList = vs by simp]
  exact wpAny_pure h
/-- what is collected -/
def Col (prog : Program) (w : World) (s : Shared) (l : Addr) (vs : List Value) : Prop := ∀ (A : Around) (E : Value → Shared → Prop) (Q : List Value → Shared → Prop), Q vs { s with heap := (s.heap.push (seqObj "list" #[] 0)).update s.heap.objs.size (Obj.mapSeq (· ++ vs.toArray)) } → wpAny (model prog w) A (collect (.ref l)) Q E s
theorem col_list {l : Addr} (hl : s.heap.IsList l vs.toArray) (hz : vs.length ≤ sizeLine) : Col prog w s l vs := fun _ _ _ h => collect_list hl h hz
theorem col_tup {l : Addr} (hl : s.heap.IsTuple l vs.toArray) (hz : vs.length ≤ sizeLine) : Col prog w s l vs := fun _ _ _ h => collect_tup hl h hz
theorem sorted_of_col {l : Addr} {kw : List (PySem.Str × Value)} {Q : Value → Shared → Prop} (hl : Col prog w s l vs) (hL : vs.length ≤ sizeLine) (ha1 : argsOk "sorted" ⟨[.ref l], kw⟩) (ha2 : ∀ x, argsOk "list.sort" ⟨[.ref x], kw⟩)
    (body : ∀ E' : Value → Shared → Prop, wpAny (model prog w) A.in1.in1 (Builtin.«list.sort» ⟨[.ref (s.heap.objs.size + 1)], kw⟩) (fun f s' => f = .done (.ret .none) ∧ Q (.ref (s.heap.objs.size + 1)) s') E' { s with heap := copyHeap s.heap vs }) :
    wpAny (model prog w) A (call (.builtin "sorted") [.ref l] kw) Q E s := by
  refine call_function_entry_kw kind_sorted plain_sorted entry_sorted ha1 ?_
  unfold Builtin.«sorted»
  refine wpAny_bind (m := checkCount "sorted" 1 1 _) (wpAny_pure ?_)
  refine wpAny_bind (hl _ _ _ ?_)
  refine wpAny_bind (wpAny_newList ?_ hL)
  have hsz : ((s.heap.push (seqObj "list" #[] 0)).update s.heap.objs.size (Obj.mapSeq (· ++ vs.toArray))).objs.size = s.heap.objs.size + 1 := by
    rw [Heap.size_update, size_push']
  show wpAny _ _ _ _ _ { s with heap := copyHeap s.heap vs }
  rw [hsz]
  refine wpAny_bind (wpAny_holding (wpAny_call_entry_kw slot_list_sort ⟨_, copyHeap_at s.heap vs, rfl⟩ entry_list_sort ?body (ha2 _)))
  case body =>
    show wpAny (model prog w) A.in1.in1 (Builtin.«list.sort» ⟨[.ref (s.heap.objs.size + 1)], kw⟩) _ _ _
    refine wpAny_mono (body _) (fun f s' hf => ?_) fun _ _ e => e
    obtain ⟨rfl, hq⟩ := hf
    exact ⟨_, rfl, wpAny_pure ⟨_, rfl, hq⟩⟩
theorem sorted_dataC {l : Addr} {Q : Value → Shared → Prop} (hl : Col prog w s l vs) (e : EachIs R vs bs) (er : EachIs (fun v b => ∃ as, Reads s.heap v (enc b) as) vs bs) (hal : AllAlike (bs.map enc)) (hk : Sortable (bs.map enc)) (hL : bs.length ≤ sizeLine)
    (hu : ∀ b, b ∈ bs → A.units + 2 + (enc b).depth < cLine) (h : ∀ out, out.length = bs.length → EachIs R out (bs.mergeSort (dataLe false enc)) → Q (.ref (s.heap.objs.size + 1)) { s with heap := sortedAll s.heap vs (List.toArray out) }) :
    wpAny (model prog w) A (call (.builtin "sorted") [.ref l]) Q E s := by
  have er' : EachIs (fun v b => ∃ as, Reads (sortingHeap (copyHeap s.heap vs) (s.heap.objs.size + 1) vs) v (enc b) as) vs bs := er.mono fun _ _ ⟨as, r⟩ => ⟨as, PyProof.Rows.Reads.keeps (fun _ _ => sorting_copy_old) r⟩
  have hL' : vs.length ≤ sizeLine := by rw [e.length]; exact hL
  exact sorted_of_col hl hL' (args_sorted1 _) (fun _ => args_list_sort _) fun _ => list_sort_vals (s := { s with heap := copyHeap s.heap vs }) (copyHeap_at s.heap vs) (SortsAt.data (s := { s with heap := sortingHeap (copyHeap s.heap vs) (s.heap.objs.size + 1) vs }) (each_map (R := fun v d => ∃ as, Reads (sortingHeap (copyHeap s.heap vs) (s.heap.objs.size + 1) vs) v d as) enc er') hal hk (bound_map hu)) hL'
    ⟨rfl, h _ (by rw [sortVals_length false rfl]; exact e.length) (sortVals_data false e er' hal)⟩
end
end FM
namespace FM
open PySem PySem.Spec PyProof.Rows L2
variable [Tbl]
abbrev leP : V × PyData → V × PyData → Bool := PySem.W.dataLe false Prod.snd
def rSortedV (K : PySem.W.Frag) : List V → Hp → VK → Prop := fun vs H Q => ∃ (a : Addr) (xs : List V) (ds : List PyData), vs = [.ref a] ∧ (SqL K H a xs ∨ SqT K H a xs) ∧ xs.length = ds.length ∧ (∀ b ∈ xs.zip ds, Dp K H b.1 b.2) ∧ PySem.W.AllAlike ds ∧ PySem.W.Sortable ds ∧ (∀ d ∈ ds, d.depth ≤ 64) ∧
  ∀ p, H p = none → Q (.ref p) (upd H p (.lst (((xs.zip ds).mergeSort leP).map Prod.fst)))
theorem each_zip {P : Value → V × PyData → Prop} : ∀ {xs : List V} {its : List Value} {ds : List PyData}, Vals xs its → xs.length = ds.length → (∀ (x : V) (u : Value) (d : PyData), RelV x u → (x, d) ∈ xs.zip ds → P u (x, d)) → PySem.W.EachIs P its (xs.zip ds)
  | [], _, [], .nil, _, _ => .nil
  | x :: xs, _, d :: ds, .cons r rs, hl, h => .cons (h x _ d r List.mem_cons_self) (each_zip rs (by simpa using hl) fun x' u' d' r' hm => h x' u' d' r' (List.mem_cons_of_mem _ hm))
theorem vals_each : ∀ {out : List Value} {bs : List (V × PyData)}, PySem.W.EachIs (fun u b => RelV b.1 u) out bs → Vals (bs.map Prod.fst) out
  | _, _, .nil => .nil
  | _, _, .cons r rs => .cons r (vals_each rs)
section
variable {X : Cx}
theorem cr_sortedV (hu : X.A.units + 100 < cLine) : CallR X (.builtin "sorted") (rSortedV X.K) := by
  intro pins s σ H vs us Q I r h
  obtain ⟨a, xs, ds, rfl, hs, hl, hd, hal, hso, hdep, q⟩ := h
  obtain ⟨u, rfl, ru⟩ := vals1 r
  obtain rfl : u = Value.ref a := ru
  have key : ∃ its : List Value, Vals xs its ∧ Col X.prog X.w s a its ∧ xs.length ≤ sizeLine := by
    rcases hs with hs | hs
    · obtain ⟨its, rv, pl, hz⟩ := I.list hs
      exact ⟨its, rv, col_list pl.isList (by rw [← rv.length]; exact hz), hz⟩
    · obtain ⟨its, rv, pt, hz⟩ := I.tuple hs
      exact ⟨its, rv, col_tup (show s.heap.IsTuple a its.toArray from pt) (by rw [← rv.length]; exact hz), hz⟩
  obtain ⟨its, rv, col, hz⟩ := key
  have hzl : (xs.zip ds).length = xs.length := by rw [List.length_zip]; omega
  have hms : (xs.zip ds).map Prod.snd = ds := List.map_snd_zip (by omega)
  refine sorted_dataC (R := fun u b => RelV b.1 u) (bs := xs.zip ds) (enc := Prod.snd) col (each_zip rv hl fun x u d r _ => r) (each_zip rv hl fun x u d r hm => Dp.reads I d x u (hd _ hm) r) (by rw [hms]; exact hal) (by rw [hms]; exact hso) (by rw [hzl]; exact hz)
    (fun b hb => by have := hdep b.2 (List.of_mem_zip (a := b.1) (b := b.2) hb).2; omega) fun out ho he => ?_
  have rv2 := vals_each he
  obtain ⟨n, hn⟩ := sortedAll_at s.heap its (List.toArray out)
  refine ⟨.ref (s.heap.objs.size + 1), upd H (s.heap.objs.size + 1) (.lst (((xs.zip ds).mergeSort leP).map Prod.fst)), I.laid (t' := s.toks) (fun b o e => sortedAll_old e) (Nat.le_succ _) ⟨?_, out, n, rv2, hn⟩, rfl, q _ (I.hok.fresh (Nat.le_succ _))⟩
  rw [List.length_map, (List.mergeSort_perm _ _).length_eq, hzl]
  exact hz
end
end FM

set_option autoImplicit false
/-! sorted(x) of data -/
namespace FM
open PySem PySem.Spec PyProof.Rows L2
variable [Tbl]
def isPair : Val → Bool
  | .tup (_ :: _) => true
  | _ => false
def noPair : Val → Bool
  | .tup _ => false
  | .non => false
  | _ => true
def srtOk (xs : List Val) : Bool := pureAll xs && (xs.all fun x => xs.all fun y => PySem.W.alike (toD x) (toD y)) && (xs.all isPair || xs.all noPair) && xs.all fun x => decide ((toD x).depth ≤ 64)
abbrev leV : Val → Val → Bool := PySem.W.dataLe false toD
def sortV (xs : List Val) : List Val := xs.mergeSort leV
/-- sorted(a list or a tuple) -/
def fSortV (a : Ex) : Fx := fun ρ s => (a ρ s).bind fun x s1 => match asQ s1 x with
  | some xs => if srtOk xs = true then .ok (sortV xs) s1 else .no
  | none => .no
theorem toDs_map : ∀ xs : List Val, toDs xs = xs.map toD
  | [] => rfl
  | x :: xs => by unfold toDs; rw [toDs_map xs]; rfl
theorem dp_zip {K : PySem.W.Frag} {H : Hp} : ∀ {xs : List V} {ds : List PyData}, DpAll K H xs ds → xs.length = ds.length ∧ ∀ b ∈ xs.zip ds, Dp K H b.1 b.2
  | [], _, .nil => ⟨rfl, by simp⟩
  | x :: xs, _, .cons h hs => by
    obtain ⟨h1, h2⟩ := dp_zip hs
    refine ⟨by simp [h1], fun b hb => ?_⟩
    rcases List.mem_cons.mp (show b ∈ (x, _) :: xs.zip _ from hb) with e | hb
    · subst e; exact h
    · exact h2 b hb
theorem repAll_pairs {K : PySem.W.Frag} {H : Hp} {μ : Mu} : ∀ (m : List (Val × V)), (∀ z ∈ m, Rep K H μ z.1 z.2) → RepAll K H μ (m.map Prod.fst) (m.map Prod.snd)
  | [], _ => by unfold RepAll; rfl
  | z :: m, h => by
    show RepAll K H μ (z.1 :: m.map Prod.fst) (z.2 :: m.map Prod.snd)
    unfold RepAll
    exact ⟨_, _, rfl, h z List.mem_cons_self, repAll_pairs m fun y hy => h y (List.mem_cons_of_mem _ hy)⟩
theorem pairs_rep {K : PySem.W.Frag} {H : Hp} {μ : Mu} : ∀ (xs : List Val) (vs : List V), RepAll K H μ xs vs → xs.length = vs.length ∧ ∀ z ∈ xs.zip vs, Rep K H μ z.1 z.2
  | [], vs, h => by unfold RepAll at h; subst h; exact ⟨rfl, by simp⟩
  | x :: xs, vs, h => by
    unfold RepAll at h
    obtain ⟨w, ws, rfl, h1, h2⟩ := h
    obtain ⟨a, b⟩ := pairs_rep xs ws h2
    refine ⟨by simp [a], fun z hz => ?_⟩
    rcases List.mem_cons.mp (show z ∈ (x, w) :: xs.zip ws from hz) with e | hz
    · subst e; exact h1
    · exact b z hz
/-- a sorted list, told -/
theorem sorted_rep {K : PySem.W.Frag} {H : Hp} {μ : Mu} {xs : List Val} {vs : List V} (h : RepAll K H μ xs vs) (f : Val → PyData) :
    RepAll K H μ (xs.mergeSort (PySem.W.dataLe false f)) (((vs.zip (xs.map f)).mergeSort leP).map Prod.fst) := by
  obtain ⟨hl, hr⟩ := pairs_rep xs vs h
  have e1 : ((xs.zip vs).mergeSort fun a b => PySem.W.dataLe false f a.1 b.1).map Prod.fst = xs.mergeSort (PySem.W.dataLe false f) := by
    rw [List.map_mergeSort (s := PySem.W.dataLe false f) (f := Prod.fst) (fun a _ b _ => rfl), List.map_fst_zip (by omega)]
  have e3 : (xs.zip vs).map (fun z => (z.2, f z.1)) = vs.zip (xs.map f) := by
    clear e1 hr h
    induction xs generalizing vs with
    | nil => cases vs <;> simp
    | cons x xs ih =>
      cases vs with
      | nil => cases hl
      | cons v vs => simp [ih (by simpa using hl)]
  have e2 : ((xs.zip vs).mergeSort fun a b => PySem.W.dataLe false f a.1 b.1).map (fun z => (z.2, f z.1)) = (vs.zip (xs.map f)).mergeSort leP := by
    rw [List.map_mergeSort (r := fun a b : Val × V => PySem.W.dataLe false f a.1 b.1) (s := leP) (f := fun z : Val × V => (z.2, f z.1)) (fun a _ b _ => rfl), e3]
  rw [← e1, ← e2, List.map_map]
  exact repAll_pairs _ fun z hz => hr z ((List.mergeSort_perm _ _).mem_iff.mp hz)
theorem pure_mem : ∀ {xs : List Val}, pureAll xs = true → ∀ {x : Val}, x ∈ xs → FM.pure x = true
  | [], _, _, h => by cases h
  | y :: xs, hp, x, h => by
    unfold pureAll at hp
    simp only [Bool.and_eq_true] at hp
    rcases List.mem_cons.mp h with e | h
    · subst e; exact hp.1
    · exact pure_mem hp.2 h
theorem srt_facts {xs : List Val} (h : srtOk xs = true) : pureAll xs = true ∧ PySem.W.AllAlike (toDs xs) ∧ PySem.W.Sortable (toDs xs) ∧ ∀ d ∈ toDs xs, d.depth ≤ 64 := by
  unfold srtOk at h
  simp only [Bool.and_eq_true, Bool.or_eq_true, List.all_eq_true, decide_eq_true_eq] at h
  obtain ⟨⟨⟨h1, h2⟩, h3⟩, h4⟩ := h
  rw [toDs_map]
  refine ⟨h1, fun d hd e he => ?_, ?_, fun d hd => ?_⟩
  · obtain ⟨x, hx, rfl⟩ := List.mem_map.mp hd
    obtain ⟨y, hy, rfl⟩ := List.mem_map.mp he
    exact h2 x hx y hy
  · rcases h3 with h3 | h3
    · refine .inl fun d hd => ?_
      obtain ⟨x, hx, rfl⟩ := List.mem_map.mp hd
      have := h3 x hx
      unfold isPair at this
      split at this
      · exact ⟨_, _, by unfold toD toDs; rfl⟩
      · cases this
    · refine .inr fun d hd => ?_
      obtain ⟨x, hx, rfl⟩ := List.mem_map.mp hd
      have := h3 x hx
      have hp := pure_mem h1 hx
      cases x <;> simp [noPair, toD, FM.pure] at this hp ⊢
  · obtain ⟨x, hx, rfl⟩ := List.mem_map.mp hd
    exact h4 x hx
section
variable {ι : Type} {X : ι → Cx} {K : PySem.W.Frag} {EW : XK} {a : Expr} {ma : Ex} {pos p : Pos}
theorem mf_sortV (c : CxF X K) (hg : ∀ i, Gl (X i) "sorted") (hm : ∀ i, (X i).mg "sorted" = none) (ha : ME X K EW a ma) (he : ∀ i, starEach [a] (X i).env = (false, eval a (X i).env) :: starEach [] (X i).env := by intro _; rfl) (hpl : ∀ i, (backTo pos (starEach [] (X i).env)).any (·.1) = false := by intro _; rfl) :
    MF X K EW (.Call (.Name "sorted" p) [a] [] pos) (fSortV ma) := by
  obtain ⟨ta, pa, sa⟩ := ha.ex
  refine ⟨⟨tCB (rSortedV K) (tCons ta tNil), fun i => c.kk i ▸ pe_callB (cr_sortedV (c.un i)) (hg i) (hm i) boot_sorted (pa_cons (pa i) pa_nil (he i)) (he := he i) (hpl := hpl i), fun σ H ρ μ s Q hr m h => ?_⟩⟩
  refine sa σ H ρ μ s _ hr m (wp_mono (wp_bind h) (fun v s1 h1 => ?_) fun _ _ q => q)
  intro x H1 μ1 g1 m1 r1
  cases ea : asQ s1 v with
  | none => simp only [ea] at h1; exact False.elim h1
  | some xs =>
    simp only [ea] at h1
    by_cases hk : srtOk xs = true
    · rw [if_pos hk] at h1
      obtain ⟨h2, h3, h4, h5⟩ := srt_facts hk
      obtain ⟨q, vs, eq, hq, hl, hrr⟩ := rep_asQ m1 r1 ea
      obtain ⟨dl, dz⟩ := dp_zip (pureAll_dp xs vs hrr h2).1
      refine ⟨q, vs, toDs xs, by rw [eq], hq, dl, dz, h3, h4, h5, fun p hn => ?_⟩
      have sr := sorted_rep hrr toD
      rw [← toDs_map] at sr
      refine fs_new h1 g1 m1 ?_ sr p hn
      rw [List.length_map, (List.mergeSort_perm _ _).length_eq, List.length_zip]
      omega
    · rw [if_neg hk] at h1; exact False.elim h1
end
end FM

set_option autoImplicit false
/-! sorted(lot, key=lambda i: (w[1][i][1], i)) -/
namespace FM
open PySem PySem.Spec PyProof.Rows L2
section
variable {X : Cx} {pins : List (Addr × Obj)} {σ : L2.St} {H : Hp} {s : Shared} {Q E : Value → Shared → Prop}
theorem k_var {i : Nat} {x : PySem.Str} {pos : Pos} {v : V} (I : Inv X pins σ H s) (hN : X.N[i]? = some x) (hv : Vis X.env.scope x) (e : σ[i]? = some (some v)) (h : ∀ u, RelV v u → Q u s) (hd : (x == ("__debug__" : PySem.Str)) = false) (hcd : (x == ("__classdict__" : PySem.Str)) = false) :
    wpAny (model X.prog X.w) X.A (eval (.Name x pos) X.env) Q E s := by
  obtain ⟨m, hn, hl⟩ := I.loc
  obtain ⟨u, r, l⟩ := hl i x v hN e hv
  have fin := h u r
  rcases l with ⟨hk, hm⟩ | ⟨hk, c, hc, hcell⟩
  · exact wpAny_Name (wpAny_loadName_local I.ok.kind hk hn hm fin) hd
  · rcases hk with hk | hk
    · exact wpAny_Name (wpAny_loadName_cell I.ok.kind hk hc hcell fin) hd
    · exact wpAny_Name (wpAny_loadName_free I.ok.kind hk hc hcell fin hcd) hd
theorem k_ix {p : Addr} {xs : List V} {i : Int} {z : V} {t : Tok} {value slice : Expr} (I : Inv X pins σ H s) (hq : SqT X.K H p xs) (he : atI xs i = some z) (hs : subscripted slice false (.ref p) (.int i t) = operate [.ref p, .int i t] (getItem (.ref p) (.int i t))) (h : ∀ u, RelV z u → Q u s) :
    wpAny (model X.prog X.w) X.A (subscriptTail value slice (.ref p) (.int i t)) Q E s := by
  obtain ⟨its, r, pl, hz⟩ := I.tuple hq
  obtain ⟨j, h1, h2, h3, h4, h5⟩ := atI_get he
  obtain ⟨w, ew, rw'⟩ := r.get h2
  have hl := r.length
  have hn := line63
  have fin := h w rw'
  exact subscriptTail_builtinR (x := w) pl.typeIs slot_tuple_getitem.lookup
    (getItem_tuple (j := j) (Q := fun r s' => r = w ∧ Q r s') pl (by omega) (by omega) (by rw [List.size_toArray, ← hl]; exact h1) (by simpa using ew) ⟨rfl, fin⟩) hs
end
abbrev byE (wv lp : PySem.Str) (k1 k2 : Nat) (p1 p2 p3 p4 p5 p6 p7 : Pos) : Expr := .Subscript (.Subscript (.Subscript (.Name wv p1) (.Constant (.int 1) k1 p2) p3) (.Name lp p4) p5) (.Constant (.int 1) k2 p6) p7
section
variable {P : Program} {w : World} {K : PySem.W.Frag} {mg : PySem.Str → Option Value} {base : Heap} {k : Nat} {qual wv lp : PySem.Str} {params : Arguments} {scope : Scope} {body : Expr} {k1 k2 : Nat} {x1 : Nat} {p1 p2 p3 p4 p5 p6 p7 p8 p9 : Pos}
theorem turn_by {R : Around} {outer : List PySem.Env} {s : Shared} {H : Hp} {f c' : Addr} {cl : List (PySem.Str × Addr)} {pm ctv : Value} {n kk : Int} {t : Tok} {a1 a2 a3 : Addr} {xs1 xs2 xs3 : List V} {E : Value → Shared → Prop}
    (SC : NdefX.NScope [lp, wv] [lp] [wv] scope) (hr : Room (k + 1) R) (e0 : Env0 P w K mg base R outer s H) (ho : s.heap.get? f = some (PySem.W.kla_obj lamN qual params (.Tuple [byE wv lp k1 k2 p1 p2 p3 p4 p5 p6 p7, .Name lp p8] x1 p9) scope cl pm c' ctv)) (hc : s.heap.CodeRec (.ref c') qual)
    (C : NdefX.CellsAt cl [wv] [some (.ref a1)] s.heap H) (hb : bindArgs (PySem.W.kla_fn lamN qual params (.Tuple [byE wv lp k1 k2 p1 p2 p3 p4 p5 p6 p7, .Name lp p8] x1 p9) scope cl pm (.ref c') ctv) ⟨[.int n t], []⟩ = Pure.pure [(lp, .int n t)])
    (vw : Vis scope wv) (vl : Vis scope lp) (dw : (wv == ("__debug__" : PySem.Str)) = false) (cw : (wv == ("__classdict__" : PySem.Str)) = false) (dl : (lp == ("__debug__" : PySem.Str)) = false) (cl' : (lp == ("__classdict__" : PySem.Str)) = false)
    (h1 : SqT K H a1 xs1) (h2 : atI xs1 1 = some (.ref a2)) (h3 : SqT K H a2 xs2) (h4 : atI xs2 n = some (.ref a3)) (h5 : SqT K H a3 xs3) (h6 : atI xs3 1 = some (.int kk)) :
    wpAny (model P w) R (call (.ref f) [.int n t]) (PySem.W.KeyPure (.tuple [.int kk, .int n]) s) E s := by
  have lim : s.heap.NoLimit := e0.mod.nolimit.keeps fun b o e => (e0.bs b o e).1
  refine wpAny_call (codeAny_mono (R := fun res s' => ∃ u, res = .ok (.ret u) ∧ PySem.W.KeyPure (.tuple [.int kk, .int n]) s u s') ?_ fun res s' ⟨u, e, q⟩ => by subst e; exact q)
  refine PySem.W.kla_callFunE hr.depth ho rfl SC.co SC.gen rfl hc ?_
  rw [hb]
  refine wpAny_pure (wpAny_newFunctionEnv SC.nocell (fun y hy => SC.par y.1 (List.of_mem_zip (a := y.1) (b := y.2) (l₁ := [lp]) (l₂ := [Value.int n t]) hy).1) (fun h1' hns hsb => ⟨lim.fresh _ hsb, ?_⟩) SC.kind)
  show codeAny _ _ (.expr _ (NdefX.envF (LNF qual params scope cl c') f s.heap.objs.size)) _ _
  have keeps : ∀ b o, s.heap.get? b = some o → h1'.get? b = some o := fun b o e => hsb.extBut b o (Nat.ne_of_lt (Heap.lt_size e)) (Heap.get?_push_of_some _ e)
  have J := NdefX.inv_startN (CX := CX0) (E := NoX) (F := LNF qual params scope cl c') (f := f) (tk := s.toks + 1) (vs := [V.int n]) (us := [Value.int n t]) SC hr.hd e0 rfl (.cons ⟨t, rfl⟩ .nil) C hns keeps
  refine PySem.W.kla_codeExpr ?_
  have IxP : ∀ b : Expr, (∀ o i, subscripted b false o i = operate [o, i] (getItem o i)) → True := fun _ _ => trivial
  refine wpAny_Tuple_spliced ?_
  show wpAny (model P w) _ (spliced ((false, eval (byE wv lp k1 k2 p1 p2 p3 p4 p5 p6 p7) (NdefX.envF (LNF qual params scope cl c') f s.heap.objs.size)) :: (false, eval (.Name lp p8) (NdefX.envF (LNF qual params scope cl c') f s.heap.objs.size)) :: [])) _ _ _
  refine Calls.spliced_cons ?_
  refine Subscript_ (Subscript_ (Subscript_ ?_))
  refine k_var (i := 1) J rfl vw rfl (fun u ru => ?_) dw cw
  obtain rfl : u = Value.ref a1 := ru
  refine wpAny_Constant_int ?_
  refine k_ix (J.tok _) h1 h2 rfl fun u ru => ?_
  obtain rfl : u = Value.ref a2 := ru
  refine k_var (i := 0) (J.tok _) rfl vl rfl (fun u ru => ?_) dl cl'
  obtain ⟨t2, rfl⟩ := ru
  refine k_ix (J.tok _) h3 h4 rfl fun u ru => ?_
  obtain rfl : u = Value.ref a3 := ru
  refine wpAny_Constant_int ?_
  refine k_ix ((J.tok _).tok _) h5 h6 rfl fun u ru => ?_
  obtain ⟨t3, rfl⟩ := ru
  refine Calls.spliced_cons ?_
  refine k_var (i := 0) ((J.tok _).tok _) rfl vl rfl (fun u ru => ?_) dl cl'
  obtain ⟨t4, rfl⟩ := ru
  refine Calls.spliced_nil ⟨by rw [sizeLine_eq]; simp, ?_⟩
  refine ⟨_, rfl, _, _, rfl, fun b o e => Heap.get?_push_of_some _ (keeps b o e), ?_⟩
  exact .tuple (Heap.get?_push_size _ rfl) rfl rfl (.cons (as := []) (.int _ _) (.cons (as := []) (.int _ _) .nil))
end
section
variable {prog : Program} {w : World} {A : Around} {E : Value → Shared → Prop} {s : Shared} {β : Type} {vs : List Value} {bs : List β} {R : Value → β → Prop}
theorem sorted_key_dataC {l : Addr} {f : Value} {kw : List (PySem.Str × Value)} {b : Bool} {Q : Value → Shared → Prop} (k : β → PyData) (hl : Col prog w s l vs) (e : PySem.W.EachIs R vs bs) (hal : PySem.W.AllAlike (bs.map k)) (hk : PySem.W.Sortable (bs.map k)) (hL : bs.length ≤ sizeLine)
    (hu : ∀ x, x ∈ bs → A.units + 2 + (k x).depth < cLine) (ha1 : argsOk "sorted" ⟨[.ref l], kw⟩) (ha2 : ∀ x, argsOk "list.sort" ⟨[.ref x], kw⟩) (ht : ∀ x, Builtin.«list.sort» ⟨[.ref x], kw⟩ = PyProof.Rows.ksk_tree x f b)
    (turn : ∀ (v : Value) (x : β), R v x → x ∈ bs → ∀ (h : Heap) (tk : Nat), (∀ b o, s.heap.get? b = some o → h.get? b = some o) →
      wpAny (model prog w) A.in1.in1 (call f [v]) (PySem.W.KeyPure (k x) { s with heap := h, toks := tk }) (fun _ _ => False) { s with heap := h, toks := tk })
    (h : ∀ out c h' tk, (∀ b o, s.heap.get? b = some o → h'.get? b = some o) → s.heap.get? (s.heap.objs.size + 1) = none → h'.get? (s.heap.objs.size + 1) = some (seqObj "list" (List.toArray out) c) → out.length = bs.length → PySem.W.EachIs R out (bs.mergeSort (PySem.W.dataLe b k)) →
      Q (.ref (s.heap.objs.size + 1)) { s with heap := h', toks := tk }) :
    wpAny (model prog w) A (call (.builtin "sorted") [.ref l] kw) Q E s := by
  have fresh : s.heap.get? (s.heap.objs.size + 1) = none := Heap.get?_none_of_le (Nat.le_succ _)
  have up : ∀ {g : Heap}, PySem.W.KeepsBut (s.heap.objs.size + 1) (PySem.W.copyHeap s.heap vs) g → ∀ b o, s.heap.get? b = some o → g.get? b = some o := fun {g} kp b o q =>
    kp b o (Nat.ne_of_lt (Nat.lt_succ_of_lt (Heap.lt_size q))) (PySem.W.copyHeap_old q)
  refine sorted_of_col hl (by rw [e.length]; exact hL) ha1 ha2 fun E' => ?_
  rw [ht]
  refine PySem.W.keyH_tree (kz := bs.map k) (s := { s with heap := PySem.W.copyHeap s.heap vs }) (PySem.W.copyHeap_at s.heap vs) (by rw [List.length_map]; exact e.length.symm) (by rw [e.length]; exact hL) hal hk (PySem.W.bound_map (A := A.in1.in1) hu)
    (PySem.W.keyH_turns (s := { s with heap := PySem.W.copyHeap s.heap vs }) e fun v x hR hx h tk kp => turn v x hR hx h tk (up kp)) fun h' tk out c kp hD ko => ⟨rfl, ?_⟩
  exact h out c h' tk (up kp) fresh hD ((ko.length (by rw [List.length_map]; exact e.length.symm)).trans e.length) (PySem.W.keyedOut_each k ko e)
end
variable [Tbl]
theorem Made.sqT {K : PySem.W.Frag} {H H1 : Hp} {P c' a : Addr} {q : PySem.Str} {xs : List V} (e : Made H H1 P c' q) (h : SqT K H a xs) : SqT K H1 a xs := by
  rcases e with rfl | ⟨ps, qs, hP, hc, rfl⟩
  · exact h
  · have ne : ∀ u, H a = some u → (∀ ps, u ≠ .tbl ps) → upd (upd H P (.tbl qs)) c' (LamX.CodeO c' q) a = some u := fun u e n => by
      rw [upd_ne (ne_of_none e hc), upd_ne (fun z => by rw [z, hP] at e; exact n ps (Option.some.inj e).symm)]
      exact e
    rcases h with (h | ⟨o, h⟩) | h
    · exact .inl (.inl (ne _ h fun _ z => by cases z))
    · exact .inl (.inr ⟨o, ne _ h fun _ z => by cases z⟩)
    · exact .inr h
theorem Made.sqL {K : PySem.W.Frag} {H H1 : Hp} {P c' a : Addr} {q : PySem.Str} {xs : List V} (e : Made H H1 P c' q) (h : SqL K H a xs) : SqL K H1 a xs := by
  rcases e with rfl | ⟨ps, qs, hP, hc, rfl⟩
  · exact h
  · have ne : ∀ u, H a = some u → (∀ ps, u ≠ .tbl ps) → upd (upd H P (.tbl qs)) c' (LamX.CodeO c' q) a = some u := fun u e n => by
      rw [upd_ne (ne_of_none e hc), upd_ne (fun z => by rw [z, hP] at e; exact n ps (Option.some.inj e).symm)]
      exact e
    rcases h with (h | ⟨o, h⟩) | h
    · exact .inl (.inl (ne _ h fun _ z => by cases z))
    · exact .inl (.inr ⟨o, ne _ h fun _ z => by cases z⟩)
    · exact .inr h
abbrev leBy (key : Int → Int) : Int → Int → Bool := PySem.W.dataLe false fun n => .tuple [.int (key n), .int n]
def tSortBy (K : PySem.W.Frag) (wi : Nat) (Pt : Addr) (qual : PySem.Str) (ta : TE) : TE := fun σ H Q => ta σ H fun x H1 => LamX.Tabs Tbl.T H1 ∧ ∃ (l : Addr) (ns : List Int) (key : Int → Int) (a1 a2 : Addr) (xs1 xs2 : List V), x = .ref l ∧ (SqL K H1 l (ns.map V.int) ∨ SqT K H1 l (ns.map V.int)) ∧ σ[wi]? = some (some (.ref a1)) ∧ SqT K H1 a1 xs1 ∧ atI xs1 1 = some (.ref a2) ∧ SqT K H1 a2 xs2 ∧
  (∀ n ∈ ns, ∃ a3 xs3, atI xs2 n = some (.ref a3) ∧ SqT K H1 a3 xs3 ∧ atI xs3 1 = some (.int (key n))) ∧
  ∀ (H2 : Hp) (c' p : Addr), Made H1 H2 Pt c' qual → LamX.Tabs Tbl.T H2 → H2 p = none → Q (.ref p) (upd H2 p (.lst ((ns.mergeSort (leBy key)).map V.int)))
theorem each_ints : ∀ {ns : List Int} {its : List Value}, Vals (ns.map V.int) its → PySem.W.EachIs (fun (u : Value) (n : Int) => ∃ t, u = .int n t) its ns
  | [], _, .nil => .nil
  | n :: ns, _, .cons r rs => .cons r (each_ints rs)
theorem ints_each : ∀ {its : List Value} {ns : List Int}, PySem.W.EachIs (fun (u : Value) (n : Int) => ∃ t, u = .int n t) its ns → Vals (ns.map V.int) its
  | _, _, .nil => .nil
  | _, _, .cons r rs => .cons r (ints_each rs)
section
variable {P : Program} {w : World} {K : PySem.W.Frag} {mg : PySem.Str → Option Value} {base : Heap} {k : Nat} {wv lp : PySem.Str} {params : Arguments} {scope : Scope} {k1 k2 x1 : Nat} {p1 p2 p3 p4 p5 p6 p7 p8 p9 p pos lpos kpos : Pos}
  {N : List PySem.Str} {qm : PySem.Str} {sc : Scope} {fa c Pt : Addr} {E EW : XK} {a : Expr} {ma : Ex} {wi : Nat}
theorem pe_sortby {ta : TE} {cdv : Value} {i : BI (k + 3) qm sc fa cdv} (hg : Gl (bX P w K mg base (k + 3) N qm sc fa cdv E i) "sorted") (hm : mg "sorted" = none)
    (code : cdv = .ref c) (tb : LamX.TabB base mg c Pt) (inT : (Pt, qm ++ ".<locals>." ++ lamN) ∈ Tbl.T) (one : ∀ p ∈ Tbl.T, p.1 = Pt → p.2 = qm ++ ".<locals>." ++ lamN)
    (dflt : ∀ env : PySem.Env, defaultsOf params env = ([], [])) (free : ∀ y ∈ scope.names, y.2 = .free → sc.names.lookup y.1 = some .cell ∨ sc.names.lookup y.1 = some .free) (frs' : ∀ y ∈ [wv], (y, NameKind.free) ∈ scope.names) (at_ : [wi].map (fun j => N[j]?) = [wv].map some)
    (SCl : NdefX.NScope [lp, wv] [lp] [wv] scope) (bind : ∀ (cl : List (PySem.Str × Addr)) (pm ctv : Value) (c' : Addr) (u : Value), bindArgs (PySem.W.kla_fn lamN (qm ++ ".<locals>." ++ lamN) params (.Tuple [byE wv lp k1 k2 p1 p2 p3 p4 p5 p6 p7, .Name lp p8] x1 p9) scope cl pm (.ref c') ctv) ⟨[u], []⟩ = Pure.pure [(lp, u)])
    (vw : Vis scope wv) (vl : Vis scope lp) (dw : (wv == ("__debug__" : PySem.Str)) = false) (cw : (wv == ("__classdict__" : PySem.Str)) = false) (dl : (lp == ("__debug__" : PySem.Str)) = false) (cl' : (lp == ("__classdict__" : PySem.Str)) = false)
    (pa : PE (bX P w K mg base (k + 3) N qm sc fa cdv E i) a ta)
    (he : backTo pos (starEach [a] (bX P w K mg base (k + 3) N qm sc fa cdv E i).env) = (false, eval a (bX P w K mg base (k + 3) N qm sc fa cdv E i).env) :: backTo pos (starEach [] (bX P w K mg base (k + 3) N qm sc fa cdv E i).env) := by rfl)
    (hpl : (backTo pos (starEach [a] (bX P w K mg base (k + 3) N qm sc fa cdv E i).env)).any (·.1) = false := by rfl) :
    PE (bX P w K mg base (k + 3) N qm sc fa cdv E i) (.Call (.Name "sorted" p) [a] [⟨some "key", .Lambda params (.Tuple [byE wv lp k1 k2 p1 p2 p3 p4 p5 p6 p7, .Name lp p8] x1 p9) scope lpos, kpos⟩] pos) (tSortBy K wi Pt (qm ++ ".<locals>." ++ lamN) ta) := by
  refine ⟨fun pins s σ H Q I h => ?_⟩
  refine wpAny_Call_Name_kw (ld_blt I hg hm boot_sorted ?_)
  refine PyProof.Rows.callWith_kw ?_ he hpl
  rw [he]
  refine Calls.spliced_cons (thn (pa.run pins s σ H _ I h) fun u s1 ⟨v, H1, I1, r1, tabs1, l, ns, key, a1, a2, xs1, xs2, ev, hseq, hσ, q1, q2, q3, q4, q⟩ => Calls.spliced_nil ?_)
  subst ev
  obtain rfl : u = Value.ref l := r1
  have hfree : ∀ y ∈ scope.names, y.2 = .free → ∃ c, (bX P w K mg base (k + 3) N qm sc fa cdv E i).env.cells.lookup y.1 = some c := fun y hy e => (free y hy e).elim (fun z => I1.ok.has _ (.inl z)) fun z => I1.ok.has _ (.inr z)
  refine wpAny_evalAll_cons (wpAny_bind (lam_mk I1 tb code inT one tabs1 (dflt _) hfree fun f c' pm ctv H2 s2 I2 made tabs2 of f0 nfr nb co => wpAny_bind (wpAny_standAt (wpAny_pure (wpAny_evalAll_nil ?_)))))
  show wpAny _ _ (call (.builtin "sorted") [.ref l] [(Str.ofString "key", .ref f)]) _ _ s2
  have col : ∃ its : List Value, Vals (ns.map V.int) its ∧ Col P w s2 l its ∧ ns.length ≤ sizeLine := by
    rcases hseq with hs | hs
    · obtain ⟨its, rv, pl, hz⟩ := I2.list (made.sqL hs)
      exact ⟨its, rv, col_list pl.isList (by rw [← rv.length]; exact hz), by simpa using hz⟩
    · obtain ⟨its, rv, pt, hz⟩ := I2.tuple (made.sqT hs)
      exact ⟨its, rv, col_tup (show s2.heap.IsTuple l its.toArray from pt) (by rw [← rv.length]; exact hz), by simpa using hz⟩
  obtain ⟨its, rv, col, hz⟩ := col
  have rm : Room (k + 3) (bX P w K mg base (k + 3) N qm sc fa cdv E i).A := i.2.1
  refine sorted_key_dataC (R := fun (u : Value) (n : Int) => ∃ t, u = .int n t) (bs := ns) (b := false) (fun n => .tuple [.int (key n), .int n]) col (each_ints rv) (PySem.W.AllAlike.of fun b b' => by simp [PySem.W.alike, PySem.W.alikeAll]) (PySem.W.Sortable.tuples fun b => ⟨_, _, rfl⟩) hz
    (fun n _ => by have := rm.un; simp [PyData.depth, PyData.depthAll]; omega) (PyProof.Rows.ksk_s1 _ _) (fun x => PyProof.Rows.ksk_l1 _ _) (fun x => PyProof.Rows.ksk_t1 _ _) ?_ ?_
  · rintro v n ⟨t, rfl⟩ hn h tk kp
    have I3 := I2.kept (t' := tk) kp
    obtain ⟨a3, xs3, g1, g2, g3⟩ := q4 n hn
    obtain ⟨⟨oc, vs, t0, e1, e2, e3⟩, _, _⟩ := I3.hok c' _ co
    have cAt := NdefX.cells_of I3 (NdefX.Caps.made (js := [wi]) I3.ok free frs' at_)
    rw [show [wi].map (NdefX.slotAt σ) = [some (V.ref a1)] by rw [List.map_cons, List.map_nil, NdefX.slotAt_of hσ]] at cAt
    have e0 := I3.env0
    exact turn_by (k := k) (R := (bX P w K mg base (k + 3) N qm sc fa cdv E i).A.in1.in1) SCl rm.in1.in1 { e0 with frames := e0.frames } (kp _ _ of) ⟨c', oc, vs, t0, rfl, e1, e2, e3⟩ cAt (bind _ _ _ _ _) vw vl dw cw dl cl' (made.sqT q1) q2 (made.sqT q3) g1 (made.sqT g2) g3
  · intro out cc h' tk kp fr hD hol he
    have rv2 := ints_each he
    exact ⟨.ref (s2.heap.objs.size + 1), upd H2 (s2.heap.objs.size + 1) (.lst ((ns.mergeSort (leBy key)).map V.int)), I2.laid (t' := tk) kp (Nat.le_succ _) ⟨by rw [List.length_map, (List.mergeSort_perm _ _).length_eq]; exact hz, out, cc, rv2, hD⟩, rfl, q H2 c' _ made tabs2 (I2.hok.fresh (Nat.le_succ _))⟩
def tIx : Val → Int → Option Val
  | .tup xs, i => (FM.ixN xs.length i).bind fun j => xs[j]?
  | _, _ => none
def isTup0 : Val → Bool
  | .tup _ => true
  | _ => false
def keyOf (v : Val) (n : Int) : Option Int := match ((tIx v 1).bind fun c => tIx c n).bind fun c => tIx c 1 with
  | some (.int k) => some k
  | _ => none
/-- sorted(lot, key=lambda i: (w[1][i][1], i)) -/
def fSortBy (a : Ex) (wi : Nat) : Fx := fun ρ s => (a ρ s).bind fun x s1 => match (asQ s1 x).bind intsOf, ρ[wi]? with
  | some ns, some (some wv) => if (ns.all fun n => (keyOf wv n).isSome) = true ∧ (tIx wv 1).any isTup0 = true then .ok ((ns.mergeSort (leBy fun n => (keyOf wv n).getD 0)).map .int) s1 else .no
  | _, _ => .no
theorem tIx_rep {H : Hp} {μ : Mu} {v z : Val} {x : V} {i : Int} (r : Rep K H μ v x) (e : tIx v i = some z) : ∃ a xs y, x = .ref a ∧ SqT K H a xs ∧ atI xs i = some y ∧ Rep K H μ z y := by
  cases v with
  | tup ys =>
    unfold Rep at r
    obtain ⟨a, vs, rfl, hq, _, hr⟩ := r
    obtain ⟨y, h1, h2⟩ := rep_at hr e
    exact ⟨a, vs, y, rfl, hq.sqT, h1, h2⟩
  | _ => cases e
theorem mf_sortby {cdv : Value} (c' : CxF (bX P w K mg base (k + 3) N qm sc fa cdv E) K) (hg : ∀ i, Gl (bX P w K mg base (k + 3) N qm sc fa cdv E i) "sorted") (hm : mg "sorted" = none)
    (code : cdv = .ref c) (tb : LamX.TabB base mg c Pt) (inT : (Pt, qm ++ ".<locals>." ++ lamN) ∈ Tbl.T) (one : ∀ p ∈ Tbl.T, p.1 = Pt → p.2 = qm ++ ".<locals>." ++ lamN)
    (dflt : ∀ env : PySem.Env, defaultsOf params env = ([], [])) (free : ∀ y ∈ scope.names, y.2 = .free → sc.names.lookup y.1 = some .cell ∨ sc.names.lookup y.1 = some .free) (frs' : ∀ y ∈ [wv], (y, NameKind.free) ∈ scope.names) (at_ : [wi].map (fun j => N[j]?) = [wv].map some)
    (SCl : NdefX.NScope [lp, wv] [lp] [wv] scope) (bind : ∀ (cl : List (PySem.Str × Addr)) (pm ctv : Value) (c' : Addr) (u : Value), bindArgs (PySem.W.kla_fn lamN (qm ++ ".<locals>." ++ lamN) params (.Tuple [byE wv lp k1 k2 p1 p2 p3 p4 p5 p6 p7, .Name lp p8] x1 p9) scope cl pm (.ref c') ctv) ⟨[u], []⟩ = Pure.pure [(lp, u)])
    (vw : Vis scope wv) (vl : Vis scope lp) (dw : (wv == ("__debug__" : PySem.Str)) = false) (cw : (wv == ("__classdict__" : PySem.Str)) = false) (dl : (lp == ("__debug__" : PySem.Str)) = false) (cl' : (lp == ("__classdict__" : PySem.Str)) = false)
    (ha : ME (bX P w K mg base (k + 3) N qm sc fa cdv E) K EW a ma)
    (he : ∀ i, backTo pos (starEach [a] (bX P w K mg base (k + 3) N qm sc fa cdv E i).env) = (false, eval a (bX P w K mg base (k + 3) N qm sc fa cdv E i).env) :: backTo pos (starEach [] (bX P w K mg base (k + 3) N qm sc fa cdv E i).env) := by intro _; rfl)
    (hpl : ∀ i, (backTo pos (starEach [a] (bX P w K mg base (k + 3) N qm sc fa cdv E i).env)).any (·.1) = false := by intro _; rfl) :
    MF (bX P w K mg base (k + 3) N qm sc fa cdv E) K EW (.Call (.Name "sorted" p) [a] [⟨some "key", .Lambda params (.Tuple [byE wv lp k1 k2 p1 p2 p3 p4 p5 p6 p7, .Name lp p8] x1 p9) scope lpos, kpos⟩] pos) (fSortBy ma wi) := by
  obtain ⟨ta, pa, sa⟩ := ha.ex
  refine ⟨⟨_, fun i => pe_sortby (hg i) hm code tb inT one dflt free frs' at_ SCl bind vw vl dw cw dl cl' (pa i) (he i) (hpl i), fun σ H ρ μ s Q hr m h => ?_⟩⟩
  refine sa σ H ρ μ s _ hr m (wp_mono (wp_bind h) (fun v s1 h1 => ?_) fun _ _ q => q)
  intro x H1 μ1 g1 m1 r1
  cases ea : asQ s1 v with
  | none => simp only [ea, Option.bind_none] at h1; exact False.elim h1
  | some ys =>
    cases en : intsOf ys with
    | none => simp only [ea, Option.bind_some, en] at h1; exact False.elim h1
    | some ns =>
      cases ew : ρ[wi]? with
      | none => simp only [ea, Option.bind_some, en, ew] at h1; exact False.elim h1
      | some ow =>
        cases ow with
        | none => simp only [ea, Option.bind_some, en, ew] at h1; exact False.elim h1
        | some wvv =>
          simp only [ea, Option.bind_some, en, ew] at h1
          split at h1
          · rename_i hk
            obtain ⟨hk, hk0⟩ := hk
            obtain ⟨q, vs, eq, hq, hl, hrr⟩ := rep_asQ m1 r1 ea
            obtain ⟨evs, _⟩ := intsOf_rep hrr en
            subst evs
            obtain ⟨xw, hxw, rw1⟩ := (hr.mono g1 m).get wi wvv ew
            cases hcv : tIx wvv 1 with
            | none => rw [hcv] at hk0; cases hk0
            | some cv =>
            rw [hcv] at hk0
            obtain ⟨a1, xs1, y1, rfl, b1, b2, rc⟩ := tIx_rep rw1 hcv
            obtain ⟨zs, rfl⟩ : ∃ zs, cv = .tup zs := by cases cv <;> first | exact ⟨_, rfl⟩ | cases hk0
            unfold Rep at rc
            obtain ⟨a2, xs2, rfl, hq2, _, hr2⟩ := rc
            have fin : ∀ (H2 : Hp) (c' p : Addr), Made H1 H2 Pt c' (qm ++ ".<locals>." ++ lamN) → LamX.Tabs Tbl.T H2 → H2 p = none → Q (.ref p) (upd H2 p (.lst ((ns.mergeSort (leBy fun n => (keyOf wvv n).getD 0)).map V.int))) := fun H2 c' p made tabs hn => by
              obtain ⟨gm, m2⟩ := made.grow m1 tabs
              refine fs_new h1 (g1.trans gm) m2 ?_ (repInts _) p hn
              rw [List.length_map, (List.mergeSort_perm _ _).length_eq]
              simpa using hl
            refine ⟨m1.tb, q, ns, fun n => (keyOf wvv n).getD 0, a1, a2, xs1, xs2, eq, hq, hxw, b1, b2, hq2.sqT, fun n hn => ?_, fin⟩
            have := List.all_eq_true.mp hk n hn
            obtain ⟨kk, hkk⟩ := Option.isSome_iff_exists.mp this
            have hkk0 := hkk
            unfold keyOf at hkk
            rw [hcv] at hkk
            simp only [Option.bind_some] at hkk
            cases e2 : tIx (.tup zs) n with
            | none => simp [e2] at hkk
            | some c2 =>
              simp only [e2, Option.bind_some] at hkk
              cases e5 : tIx c2 1 with
              | none => simp [e5] at hkk
              | some c3 =>
                rw [e5] at hkk
                obtain ⟨y2, z3, rc2⟩ := rep_at hr2 e2
                obtain ⟨a3, xs3, y3, rfl, z5, z6, rc3⟩ := tIx_rep rc2 e5
                cases c3 with
                | int k3 =>
                  injection hkk with hkk
                  subst hkk
                  unfold Rep at rc3
                  subst rc3
                  exact ⟨a3, xs3, z3, z5, by rw [z6]; show some (V.int k3) = some (V.int ((keyOf wvv n).getD 0)); rw [hkk0]; rfl⟩
                | _ => cases hkk
          · exact False.elim h1
end
end FM

set_option autoImplicit false
/-! the text: mirrors -/
namespace FT
open PySem PySem.Spec PyProof.Rows L2 FM
def topS (i : Nat) : Stmt := PySem.Challenge.pw_freshtold_k09_early_and_late_orders.main.body.getD i (.Pass ⟨0, 0, 0, 0⟩)
def b_law_take (N : Nat) : Sx := (sCons (sIf (tVal (eOp opEq (eOp opIx (eVar 0) (eC (.int 0))) (eC (.int 0)))) (sCons (sAsg (eOp opIx (eDead (fAdd (eDead (fSl (eOp opIx (eVar 0) (eC (.int 3))) (oSome (eOp opIx (eVar 0) (eC (.int 2)))) oNone)) (eDead (fLst (aCons (eC (.int 0)) aNil))))) (eC (.int 0))) (FM.gName 2))
    (sCons (sAugSub opAddI (eVar 0) (eC (.int 2)) (eC (.int 1)))
    (sCons (sIf (tVal (eOp opGe (eVar 2) (eOp opPow (eC (.int 10)) (eC (.int 18))))) (sCons (sSub (eVar 0) (eC (.int 0)) (eVar 2))
    sNil) sNil)
    (sCons (sAsg (eOp opAdd (eOp opAdd (eOp opMul (eOp opIx (eVar 0) (eC (.int 1))) (eC (.int 48271))) (eOp opMod (eCall bInt (aCons (eVar 2) aNil)) (eC (.int 2147483647)))) (eOp opMul (eC (.int 7919)) (eOp opIx (eVar 0) (eC (.int 2))))) (FM.gName 3))
    (sCons (sSub (eVar 0) (eC (.int 1)) (eOp opMod (eCall bInt (aCons (eVar 3) aNil)) (eC (.int 2147483647))))
    sNil))))) sNil)
    (sCons (sIf (tVal (eOp opGt (eOp opIx (eVar 0) (eC (.int 0))) (eC (.int 0)))) (sCons (sAsg (eOp opMod (eCall bInt (aCons (eOp opIx (eVar 0) (eC (.int 0))) aNil)) (eVar 1)) (FM.gName 4))
    (sCons (sSub (eVar 0) (eC (.int 0)) (eOp opDiv (eCall bInt (aCons (eOp opIx (eVar 0) (eC (.int 0))) aNil)) (eVar 1)))
    (sCons (sRet (eVar 4))
    sNil))) sNil)
    (sCons (sAsg (eOp opMod (eCall bInt (aCons (eOp opMul (eOp opAdd (eOp opIx (eVar 0) (eC (.int 1))) (eC (.int 1))) (eC (.int 39373))) aNil)) (eC (.int 1000000007))) (FM.gName 5))
    (sCons (sAsg (eOp opMod (eCall bInt (aCons (eOp opMul (eOp opMod (eCall bInt (aCons (eOp opMul (eVar 5) (eVar 5)) aNil)) (eC (.int 998244353))) (eC (.int 30011))) aNil)) (eC (.int 998244353))) (FM.gName 6))
    (sCons (sRet (eOp opMod (eCall bInt (aCons (eOp opDiv (eVar 6) (eC (.int 7))) aNil)) (eVar 1)))
    sNil)))))
def m_law_take (N : Nat) : Fn := mkFn 7 2 (b_law_take N)
def b_law_one (N : Nat) : Sx := (sCons (sRet (eOp opIx (eVar 1) (eFn (m_law_take N) (aCons (eVar 0) (aCons (eCall bLen (aCons (eVar 1) aNil)) aNil)))))
    sNil)
def m_law_one (N : Nat) : Fn := mkFn 2 2 (b_law_one N)
def b_law_far (N : Nat) : Sx := (sCons (sAsg (eFn (m_law_one N) (aCons (eVar 0) (aCons (eDead (fLst (aCons (eC (.int 0)) (aCons (eC (.int 0)) (aCons (eC (.int 0)) (aCons (eC (.int 0)) (aCons (eC (.int 999999000)) (aCons (eOp1 opNeg (eC (.int 999999000))) aNil)))))))) aNil))) (FM.gName 2))
    (sCons (sAsg (eDead (fComp (iSeq (eOp opIx (eVar 1) (eC (.int 1)))) [4] (FM.gName 4) tYes (eOp opAdd (eTup (aCons (eOp opIx (eVar 4) (eC (.int 0))) (aCons (eOp opAdd (eOp opIx (eVar 4) (eC (.int 1))) (eVar 2)) (aCons (eIf (tVal (eIsN (eOp opIx (eVar 4) (eC (.int 2))))) (eC .non) (eOp opAdd (eOp opIx (eVar 4) (eC (.int 2))) (eVar 2))) aNil)))) (eSlT (eVar 4) (oSome (eC (.int 3))) oNone)))) (FM.gName 3))
    (sCons (sRet (eTup (aCons (eOp opIx (eVar 1) (eC (.int 0))) (aCons (eCall bTuple (aCons (eVar 3) aNil)) aNil))))
    sNil)))
def m_law_far (N : Nat) : Fn := mkFn 5 2 (b_law_far N)
def l1_law_mixed (N : Nat) : Sx := (sCons (sExpr (eChg cInsert (eVar 2) (aCons (eFn (m_law_take N) (aCons (eVar 0) (aCons (eOp opAdd (eCall bLen (aCons (eVar 2) aNil)) (eC (.int 1))) aNil))) (aCons (eVar 3) aNil))))
    sNil)
theorem l1_law_mixed_ap (N : Nat) (ρ : FM.Env) (s : S) : l1_law_mixed N ρ s = (sCons (sExpr (eChg cInsert (eVar 2) (aCons (eFn (m_law_take N) (aCons (eVar 0) (aCons (eOp opAdd (eCall bLen (aCons (eVar 2) aNil)) (eC (.int 1))) aNil))) (aCons (eVar 3) aNil))))
    sNil) ρ s := rfl
def b_law_mixed (N : Nat) : Sx := (sCons (sAsg (eLive (fLst aNil)) (FM.gName 2))
    (sCons (sFor (iSeq (eVar 1)) (FM.gName 3) (l1_law_mixed N))
    (sCons (sRet (eVar 2))
    sNil)))
def m_law_mixed (N : Nat) : Fn := mkFn 4 2 (b_law_mixed N)
def b_law_is_ahead (N : Nat) : Sx := (sCons (sRet (eAnd (eNotN (eOp opIx (eOp opIx (eVar 0) (eVar 1)) (eC (.int 2)))) (eOp opLt (eOp opIx (eOp opIx (eVar 0) (eVar 1)) (eC (.int 2))) (eOp opIx (eOp opIx (eVar 0) (eVar 2)) (eC (.int 1))))))
    sNil)
def m_law_is_ahead (N : Nat) : Fn := mkFn 3 3 (b_law_is_ahead N)
def b_law_is_int (N : Nat) : Sx := (sCons (sRet (eAnd (eIsi isiInt (eVar 0)) (eNot (eIsi isiBool (eVar 0)))))
    sNil)
def m_law_is_int (N : Nat) : Fn := mkFn 1 1 (b_law_is_int N)
def l1_law_is_order (N : Nat) : Sx := (sCons (sIf (tVal (eOp opNe (eDead (fComp (iSeq (eAlt (eSlT (eVar 1) (oSome (eVar 2)) oNone) (eDead (fSl (eVar 1) (oSome (eVar 2)) oNone)))) [5] (FM.gName 5) (tVal (eFn (m_law_is_ahead N) (aCons (eVar 0) (aCons (eVar 5) (aCons (eVar 3) aNil))))) (eC (.int 1)))) (eDead (fLst aNil)))) (sCons (sRet (eC (.bl false)))
    sNil) sNil)
    sNil)
theorem l1_law_is_order_ap (N : Nat) (ρ : FM.Env) (s : S) : l1_law_is_order N ρ s = (sCons (sIf (tVal (eOp opNe (eDead (fComp (iSeq (eAlt (eSlT (eVar 1) (oSome (eVar 2)) oNone) (eDead (fSl (eVar 1) (oSome (eVar 2)) oNone)))) [5] (FM.gName 5) (tVal (eFn (m_law_is_ahead N) (aCons (eVar 0) (aCons (eVar 5) (aCons (eVar 3) aNil))))) (eC (.int 1)))) (eDead (fLst aNil)))) (sCons (sRet (eC (.bl false)))
    sNil) sNil)
    sNil) ρ s := rfl
def b_law_is_order (N : Nat) : Sx := (sCons (sIf (tOr (tNot (tVal (eIsi isiTup (eVar 1)))) (tVal (eOp opNe (eDead (fComp (iSeq (eVar 1)) [4] (FM.gName 4) (tNot (tVal (eFn (m_law_is_int N) (aCons (eVar 4) aNil)))) (eC (.int 1)))) (eDead (fLst aNil))))) (sCons (sRet (eC (.bl false)))
    sNil) sNil)
    (sCons (sIf (tVal (eOp opNe (eDead (fSortV (eVar 1))) (eDead (fRange (eCall bLen (aCons (eVar 0) aNil)))))) (sCons (sRet (eC (.bl false)))
    sNil) sNil)
    (sCons (sFor (FM.iEnum (eVar 1)) (FM.gTup [(FM.gName 2), (FM.gName 3)]) (l1_law_is_order N))
    (sCons (sRet (eC (.bl true)))
    sNil))))
def m_law_is_order (N : Nat) : Fn := mkFn 6 2 (b_law_is_order N)
def b_law_alike (N : Nat) : Sx := (sCons (sRet (eAnd (eOp opEq (eVar 0) (eVar 1)) (eOp opEq (eCall bRepr (aCons (eVar 0) aNil)) (eCall bRepr (aCons (eVar 1) aNil)))))
    sNil)
def m_law_alike (N : Nat) : Fn := mkFn 2 2 (b_law_alike N)
def b_by_begins (N : Nat) : Sx := (sCons (sRet (eTupleF (fSortBy (eVar 1) 0)))
    sNil)
def m_by_begins (N : Nat) : Fn := mkFn 2 2 (b_by_begins N)
def b_split_order (N : Nat) : Sx := (sCons (sAsg (eDead (fComp (iRange1 (eCall bLen (aCons (eOp opIx (eVar 0) (eC (.int 1))) aNil))) [4] (FM.gName 4) (tAnd (tVal (eOp opNe (eVar 4) (eVar 1))) (tVal (eOp opNotIn (eVar 4) (eVar 2)))) (eVar 4))) (FM.gName 3))
    (sCons (sRet (eTupS (aStar (eFn (m_by_begins N) (aCons (eVar 0) (aCons (eVar 2) aNil))) (aCons (eVar 1) (aStar (eFn (m_by_begins N) (aCons (eVar 0) (aCons (eVar 3) aNil))) aNil)))))
    sNil))
def m_split_order (N : Nat) : Fn := mkFn 5 3 (b_split_order N)
def b_is_ahead (N : Nat) : Sx := (sCons (sAsg (eOp opIx (eOp opIx (eOp opIx (eVar 0) (eC (.int 1))) (eVar 1)) (eC (.int 2))) (FM.gName 3))
    (sCons (sRet (eAnd (eNotN (eVar 3)) (eOp opLt (eVar 3) (eOp opIx (eOp opIx (eOp opIx (eVar 0) (eC (.int 1))) (eVar 2)) (eC (.int 1))))))
    sNil))
def m_is_ahead (N : Nat) : Fn := mkFn 4 3 (b_is_ahead N)
def b_behind_of (N : Nat) : Sx := (sCons (sRet (eLot (eVar 0) (iRange1 (eCall bLen (aCons (eOp opIx (eVar 0) (eC (.int 1))) aNil))) [0, 1] (eFn (m_is_ahead N) (aCons (eVar 1) (aCons (eVar 2) (aCons (eVar 0) aNil)))) 0))
    sNil)
def m_behind_of (N : Nat) : Fn := mkFn 2 2 (b_behind_of N)
def b_late_order (N : Nat) : Sx := (sCons (sAsg (eTupS (aCons (eVar 1) (aStar (eFn (m_behind_of N) (aCons (eVar 0) (aCons (eVar 1) aNil))) aNil))) (FM.gName 2))
    (sCons (sRet (eFnL (m_split_order N) (aCons (eVar 0) (aCons (eVar 1) (aCons (eDead (fComp (iRange1 (eCall bLen (aCons (eOp opIx (eVar 0) (eC (.int 1))) aNil))) [3] (FM.gName 3) (tVal (eOp opNotIn (eVar 3) (eVar 2))) (eVar 3))) aNil)))))
    sNil))
def m_late_order (N : Nat) : Fn := mkFn 4 2 (b_late_order N)
def b_ahead_of (N : Nat) : Sx := (sCons (sRet (eLot (eVar 0) (iRange1 (eCall bLen (aCons (eOp opIx (eVar 0) (eC (.int 1))) aNil))) [0, 1] (eFn (m_is_ahead N) (aCons (eVar 1) (aCons (eVar 0) (aCons (eVar 2) aNil)))) 0))
    sNil)
def m_ahead_of (N : Nat) : Fn := mkFn 2 2 (b_ahead_of N)
def b_early_order (N : Nat) : Sx := (sCons (sRet (eFnL (m_split_order N) (aCons (eVar 0) (aCons (eVar 1) (aCons (eFn (m_ahead_of N) (aCons (eVar 0) (aCons (eVar 1) aNil))) aNil)))))
    sNil)
def m_early_order (N : Nat) : Fn := mkFn 2 2 (b_early_order N)
def b_law_by_begins (N : Nat) : Sx := (sCons (sRet (eTupleF (fComp (iSeq (eDead (fSortV (eDead (fComp (iSeq (eVar 1)) [3] (FM.gName 3) tYes (eTup (aCons (eOp opIx (eOp opIx (eVar 0) (eVar 3)) (eC (.int 1))) (aCons (eVar 3) aNil)))))))) [2, 3] (FM.gTup [(FM.gName 2), (FM.gName 3)]) tYes (eVar 3))))
    sNil)
def m_law_by_begins (N : Nat) : Fn := mkFn 4 2 (b_law_by_begins N)
def b_law_stretch (N : Nat) : Sx := (sCons (sAsg (eFn (m_law_one N) (aCons (eVar 0) (aCons (eDead (fLst (aCons (eC (.int 0)) (aCons (eC (.int 1)) (aCons (eC (.int 4)) (aCons (eC (.int 5)) aNil)))))) aNil))) (FM.gName 3))
    (sCons (sIf (tVal (eOp opEq (eVar 2) (eC (.int 0)))) (sCons (sRet (eTup (aCons (eOp opSub (eVar 1) (eVar 3)) (aCons (eOp opAdd (eVar 1) (eFn (m_law_one N) (aCons (eVar 0) (aCons (eDead (fLst (aCons (eC (.int 0)) (aCons (eC (.int 1)) (aCons (eC (.int 4)) (aCons (eC (.int 5)) aNil)))))) aNil)))) aNil))))
    sNil) sNil)
    (sCons (sIf (tVal (eOp opEq (eVar 2) (eC (.int 1)))) (sCons (sRet (eTup (aCons (eOp opSub (eVar 1) (eC (.int 5))) (aCons (eOp opAdd (eVar 1) (eFn (m_law_one N) (aCons (eVar 0) (aCons (eDead (fLst (aCons (eC (.int 5)) (aCons (eC (.int 5)) (aCons (eC (.int 4)) aNil))))) aNil)))) aNil))))
    sNil) sNil)
    (sCons (sAsg (eFn (m_law_one N) (aCons (eVar 0) (aCons (eDead (fLst (aCons (eC (.int 9)) (aCons (eC (.int 15)) (aCons (eC (.int 30)) (aCons (eC (.int 10)) (aCons (eC (.int 20)) (aCons (eC (.int 300)) aNil)))))))) aNil))) (FM.gName 4))
    (sCons (sIf (tVal (eOp opEq (eVar 2) (eC (.int 2)))) (sCons (sRet (eTup (aCons (eOp opSub (eVar 1) (eVar 4)) (aCons (eOp opAdd (eVar 1) (eFn (m_law_one N) (aCons (eVar 0) (aCons (eDead (fLst (aCons (eC (.int 9)) (aCons (eC (.int 15)) (aCons (eC (.int 10)) (aCons (eC (.int 60)) (aCons (eC (.int 300)) aNil))))))) aNil)))) aNil))))
    sNil) sNil)
    (sCons (sRet (eTup (aCons (eOp opSub (eVar 1) (eFn (m_law_one N) (aCons (eVar 0) (aCons (eDead (fLst (aCons (eVar 3) (aCons (eVar 4) aNil)))) aNil)))) (aCons (eFn (m_law_one N) (aCons (eVar 0) (aCons (eDead (fLst (aCons (eOp opAdd (eVar 1) (eVar 4)) (aCons (eOp opAdd (eVar 1) (eVar 3)) (aCons (eOp opAdd (eVar 1) (eC (.int 15))) (aCons (eC .non) aNil)))))) aNil))) aNil))))
    sNil))))))
def m_law_stretch (N : Nat) : Fn := mkFn 5 3 (b_law_stretch N)
def b_law_rest (N : Nat) : Sx := (sCons (sRet (eOp opSub (eVar 0) (eOp opMul (eOp opDiv (eVar 0) (eVar 1)) (eVar 1))))
    sNil)
def m_law_rest (N : Nat) : Fn := mkFn 2 2 (b_law_rest N)
def b_law_comes_to (N : Nat) : Sx := (sCons (sRet (eFnL (m_law_rest N) (aCons (eCall bSum (aCons (eDead (fComp (iZip (eVar 2) (eVar 1)) [3, 4] (FM.gTup [(FM.gName 3), (FM.gName 4)]) tYes (eOp opMul (eVar 3) (eVar 4)))) aNil)) (aCons (eOp opIx (eVar 0) (eC (.int 0))) aNil))))
    sNil)
def m_law_comes_to (N : Nat) : Fn := mkFn 5 3 (b_law_comes_to N)
def l1_law_sum (N : Nat) : Sx := (sCons (sIf (tVal (eOp opGt (eOp opIx (eVar 1) (eC (.int 1))) (eC (.int 0)))) (sCons (sSub (eVar 2) (eFn (m_law_take N) (aCons (eVar 0) (aCons (eOp opIx (eVar 1) (eC (.int 1))) aNil))) (eOp opAdd (eC (.int 1)) (eFn (m_law_take N) (aCons (eVar 0) (aCons (eOp opSub (eOp opIx (eVar 1) (eC (.int 0))) (eC (.int 1))) aNil)))))
    sNil) sNil)
    sNil)
theorem l1_law_sum_ap (N : Nat) (ρ : FM.Env) (s : S) : l1_law_sum N ρ s = (sCons (sIf (tVal (eOp opGt (eOp opIx (eVar 1) (eC (.int 1))) (eC (.int 0)))) (sCons (sSub (eVar 2) (eFn (m_law_take N) (aCons (eVar 0) (aCons (eOp opIx (eVar 1) (eC (.int 1))) aNil))) (eOp opAdd (eC (.int 1)) (eFn (m_law_take N) (aCons (eVar 0) (aCons (eOp opSub (eOp opIx (eVar 1) (eC (.int 0))) (eC (.int 1))) aNil)))))
    sNil) sNil)
    sNil) ρ s := rfl
def b_law_sum (N : Nat) : Sx := (sCons (sAsg (eLive (fMul (eDead (fLst (aCons (eC (.int 0)) aNil))) (eOp opIx (eVar 1) (eC (.int 1))))) (FM.gName 2))
    (sCons (sFor (iRange1 (eFn (m_law_one N) (aCons (eVar 0) (aCons (eDead (fLst (aCons (eC (.int 1)) (aCons (eC (.int 2)) (aCons (eC (.int 1)) (aCons (eC (.int 2)) (aCons (eC (.int 3)) (aCons (eC (.int 8)) (aCons (eC (.int 0)) aNil))))))))) aNil)))) (FM.gName 3) (l1_law_sum N))
    (sCons (sRet (eCall bTuple (aCons (eVar 2) aNil)))
    sNil)))
def m_law_sum (N : Nat) : Fn := mkFn 4 2 (b_law_sum N)
def b_law_plus (N : Nat) : Sx := (sCons (sRet (eLive (fComp (iZip (eVar 1) (eVar 3)) [4, 5] (FM.gTup [(FM.gName 4), (FM.gName 5)]) tYes (eFn (m_law_rest N) (aCons (eOp opAdd (eVar 4) (eOp opMul (eVar 2) (eVar 5))) (aCons (eOp opIx (eVar 0) (eC (.int 0))) aNil))))))
    sNil)
def m_law_plus (N : Nat) : Fn := mkFn 6 4 (b_law_plus N)
def l1_law_sums (N : Nat) : Sx := (sCons (sPar 5 6 (eFn (m_law_one N) (aCons (eVar 0) (aCons (eVar 3) aNil))) (eFn (m_law_one N) (aCons (eVar 0) (aCons (eVar 3) aNil))))
    (sCons (sAsg (eCall bTuple (aCons (eFn (m_law_plus N) (aCons (eVar 1) (aCons (eVar 5) (aCons (eOp opAdd (eC (.int 1)) (eFn (m_law_take N) (aCons (eVar 0) (aCons (eOp opSub (eOp opIx (eVar 1) (eC (.int 0))) (eC (.int 1))) aNil)))) (aCons (eVar 6) aNil))))) aNil)) (FM.gName 7))
    (sCons (sExpr (eChg cAppend (eVar 3) (aCons (eFn (m_law_one N) (aCons (eVar 0) (aCons (eDead (fLst (aCons (eFn (m_law_sum N) (aCons (eVar 0) (aCons (eVar 1) aNil))) (aCons (eFn (m_law_sum N) (aCons (eVar 0) (aCons (eVar 1) aNil))) (aCons (eVar 7) aNil))))) aNil))) aNil)))
    sNil)))
theorem l1_law_sums_ap (N : Nat) (ρ : FM.Env) (s : S) : l1_law_sums N ρ s = (sCons (sPar 5 6 (eFn (m_law_one N) (aCons (eVar 0) (aCons (eVar 3) aNil))) (eFn (m_law_one N) (aCons (eVar 0) (aCons (eVar 3) aNil))))
    (sCons (sAsg (eCall bTuple (aCons (eFn (m_law_plus N) (aCons (eVar 1) (aCons (eVar 5) (aCons (eOp opAdd (eC (.int 1)) (eFn (m_law_take N) (aCons (eVar 0) (aCons (eOp opSub (eOp opIx (eVar 1) (eC (.int 0))) (eC (.int 1))) aNil)))) (aCons (eVar 6) aNil))))) aNil)) (FM.gName 7))
    (sCons (sExpr (eChg cAppend (eVar 3) (aCons (eFn (m_law_one N) (aCons (eVar 0) (aCons (eDead (fLst (aCons (eFn (m_law_sum N) (aCons (eVar 0) (aCons (eVar 1) aNil))) (aCons (eFn (m_law_sum N) (aCons (eVar 0) (aCons (eVar 1) aNil))) (aCons (eVar 7) aNil))))) aNil))) aNil)))
    sNil))) ρ s := rfl
def b_law_sums (N : Nat) : Sx := (sCons (sAsg (eLive (fLst (aCons (eFn (m_law_sum N) (aCons (eVar 0) (aCons (eVar 1) aNil))) aNil))) (FM.gName 3))
    (sCons (sFor (iRange1 (eOp opSub (eVar 2) (eC (.int 1)))) (FM.gName 4) (l1_law_sums N))
    (sCons (sRet (eVar 3))
    sNil)))
def m_law_sums (N : Nat) : Fn := mkFn 8 3 (b_law_sums N)
def b_law_world (N : Nat) : Sx := (sCons (sRet (eTupleF (fComp (iRange1 (eOp opIx (eVar 1) (eC (.int 1)))) [2] (FM.gName 2) tYes (eFn (m_law_take N) (aCons (eVar 0) (aCons (eOp opIx (eVar 1) (eC (.int 0))) aNil))))))
    sNil)
def m_law_world (N : Nat) : Fn := mkFn 3 2 (b_law_world N)
def l1_law_plan (N : Nat) : Sx := (sCons (sAsg (eFn (m_law_one N) (aCons (eVar 0) (aCons (eVar 5) aNil))) (FM.gName 9))
    (sCons (sAsg (eIf (tVal (eOp opEq (eFn (m_law_take N) (aCons (eVar 0) (aCons (eC (.int 3)) aNil))) (eC (.int 0)))) (eTup (aCons (eC (.str "ask")) (aCons (eVar 9) aNil))) (eTup (aCons (eC (.str "tell")) (aCons (eVar 9) (aCons (eFn (m_law_comes_to N) (aCons (eVar 1) (aCons (eVar 4) (aCons (eVar 9) aNil)))) aNil))))) (FM.gName 10))
    (sCons (sAsg (eFn (m_law_stretch N) (aCons (eVar 0) (aCons (eOp opMul (eC (.int 10)) (eVar 8)) (aCons (eVar 7) aNil)))) (FM.gTup [(FM.gName 11), (FM.gName 12)]))
    (sCons (sExpr (eChg cAppend (eVar 6) (aCons (eTup (aCons (eVar 10) (aCons (eVar 11) (aCons (eIf (tVal (eIsN (eVar 12))) (eOp opAdd (eVar 11) (eC (.int 40))) (eVar 12)) aNil)))) aNil)))
    sNil))))
theorem l1_law_plan_ap (N : Nat) (ρ : FM.Env) (s : S) : l1_law_plan N ρ s = (sCons (sAsg (eFn (m_law_one N) (aCons (eVar 0) (aCons (eVar 5) aNil))) (FM.gName 9))
    (sCons (sAsg (eIf (tVal (eOp opEq (eFn (m_law_take N) (aCons (eVar 0) (aCons (eC (.int 3)) aNil))) (eC (.int 0)))) (eTup (aCons (eC (.str "ask")) (aCons (eVar 9) aNil))) (eTup (aCons (eC (.str "tell")) (aCons (eVar 9) (aCons (eFn (m_law_comes_to N) (aCons (eVar 1) (aCons (eVar 4) (aCons (eVar 9) aNil)))) aNil))))) (FM.gName 10))
    (sCons (sAsg (eFn (m_law_stretch N) (aCons (eVar 0) (aCons (eOp opMul (eC (.int 10)) (eVar 8)) (aCons (eVar 7) aNil)))) (FM.gTup [(FM.gName 11), (FM.gName 12)]))
    (sCons (sExpr (eChg cAppend (eVar 6) (aCons (eTup (aCons (eVar 10) (aCons (eVar 11) (aCons (eIf (tVal (eIsN (eVar 12))) (eOp opAdd (eVar 11) (eC (.int 40))) (eVar 12)) aNil)))) aNil)))
    sNil)))) ρ s := rfl
def b_law_plan (N : Nat) : Sx := (sCons (sPar 3 4 (eFn (m_law_one N) (aCons (eVar 0) (aCons (eDead (fLst (aCons (eVar 2) (aCons (eOp opSub (eVar 2) (eC (.int 1))) (aCons (eOp opDiv (eVar 2) (eC (.int 2))) (aCons (eFn (m_law_take N) (aCons (eVar 0) (aCons (eOp opAdd (eVar 2) (eC (.int 1))) aNil))) aNil)))))) aNil))) (eFn (m_law_world N) (aCons (eVar 0) (aCons (eVar 1) aNil))))
    (sCons (sPar 5 6 (eFn (m_law_sums N) (aCons (eVar 0) (aCons (eVar 1) (aCons (eFn (m_law_one N) (aCons (eVar 0) (aCons (eDead (fLst (aCons (eC (.int 2)) (aCons (eC (.int 3)) (aCons (eC (.int 4)) (aCons (eC (.int 6)) aNil)))))) aNil))) aNil)))) (eLive (fLst aNil)))
    (sCons (sAsg (eFn (m_law_one N) (aCons (eVar 0) (aCons (eDead (fLst (aCons (eC (.int 2)) (aCons (eC (.int 3)) (aCons (eC (.int 1)) (aCons (eC (.int 0)) (aCons (eC (.int 2)) aNil))))))) aNil))) (FM.gName 7))
    (sCons (sFor (iSeq (eFn (m_law_mixed N) (aCons (eVar 0) (aCons (eDead (fRange (eVar 3))) aNil)))) (FM.gName 8) (l1_law_plan N))
    (sCons (sRet (eTup (aCons (eVar 1) (aCons (eCall bTuple (aCons (eVar 6) aNil)) aNil))))
    sNil)))))
def m_law_plan (N : Nat) : Fn := mkFn 13 3 (b_law_plan N)
def b_law_put (N : Nat) : Sx := (sCons (sRet (eOp opAdd (eOp opAdd (eSlT (eVar 0) oNone (oSome (eVar 1))) (eTup (aCons (eVar 2) aNil))) (eSlT (eVar 0) (oSome (eOp opAdd (eVar 1) (eC (.int 1)))) oNone)))
    sNil)
def m_law_put (N : Nat) : Fn := mkFn 3 3 (b_law_put N)
def b_law_other_answer (N : Nat) : Sx := (sCons (sAsg (eIf (tVal (eOp opEq (eOp opIx (eOp opIx (eVar 2) (eC (.int 0))) (eC (.int 0))) (eC (.str "tell")))) (eDead (fLst (aCons (eC (.str "new")) (aCons (eC (.str "known")) (aCons (eC (.str "clash")) aNil))))) (eDead (fAdd (eDead (fLst (aCons (eC (.str "open")) aNil))) (eDead (fRange (eOp opIx (eVar 1) (eC (.int 0)))))))) (FM.gName 3))
    (sCons (sRet (eFnL (m_law_one N) (aCons (eVar 0) (aCons (eDead (fComp (iSeq (eVar 3)) [4] (FM.gName 4) (tNot (tVal (eFn (m_law_alike N) (aCons (eVar 4) (aCons (eOp opIx (eVar 2) (eC (.int 3))) aNil))))) (eVar 4))) aNil))))
    sNil))
def m_law_other_answer (N : Nat) : Fn := mkFn 5 3 (b_law_other_answer N)
def b_law_bent_history (N : Nat) : Sx := (sCons (sAsg (eVar 1) (FM.gTup [(FM.gName 2), (FM.gName 3)]))
    (sCons (sIf (tVal (eOp opEq (eVar 3) (eTup aNil))) (sCons (sRet (eVar 1))
    sNil) sNil)
    (sCons (sAsg (eFn (m_law_take N) (aCons (eVar 0) (aCons (eCall bLen (aCons (eVar 3) aNil)) aNil))) (FM.gName 4))
    (sCons (sAsg (eOp opIx (eVar 3) (eVar 4)) (FM.gTup [(FM.gName 5), (FM.gName 6), (FM.gName 7), (FM.gName 8)]))
    (sCons (sIf (tVal (eOp opEq (eFn (m_law_take N) (aCons (eVar 0) (aCons (eC (.int 2)) aNil))) (eC (.int 0)))) (sCons (sRet (eTup (aCons (eVar 2) (aCons (eFn (m_law_put N) (aCons (eVar 3) (aCons (eVar 4) (aCons (eTup (aCons (eVar 5) (aCons (eVar 6) (aCons (eVar 7) (aCons (eFn (m_law_other_answer N) (aCons (eVar 0) (aCons (eVar 2) (aCons (eOp opIx (eVar 3) (eVar 4)) aNil)))) aNil))))) aNil)))) aNil))))
    sNil) sNil)
    (sCons (sAsg (eOp opAdd (eOp opIx (eFn (m_law_one N) (aCons (eVar 0) (aCons (eVar 3) aNil))) (eC (.int 1))) (eFn (m_law_one N) (aCons (eVar 0) (aCons (eDead (fLst (aCons (eC (.int 1)) (aCons (eC (.int 0)) (aCons (eC (.int 5)) (aCons (eC (.int 11)) (aCons (eOp1 opNeg (eC (.int 1))) aNil))))))) aNil)))) (FM.gName 9))
    (sCons (sRet (eTup (aCons (eVar 2) (aCons (eFn (m_law_put N) (aCons (eVar 3) (aCons (eVar 4) (aCons (eTup (aCons (eVar 5) (aCons (eVar 9) (aCons (eOp opAdd (eVar 9) (eFn (m_law_one N) (aCons (eVar 0) (aCons (eDead (fLst (aCons (eC (.int 0)) (aCons (eC (.int 1)) (aCons (eC (.int 8)) aNil))))) aNil)))) (aCons (eVar 8) aNil))))) aNil)))) aNil))))
    sNil)))))))
def m_law_bent_history (N : Nat) : Fn := mkFn 10 2 (b_law_bent_history N)
def b_law_inverse (N : Nat) : Sx := (sCons (sRet (eOp opIx (eDead (fComp (iRange2 (eC (.int 1)) (eVar 0)) [2] (FM.gName 2) (tVal (eOp opEq (eFn (m_law_rest N) (aCons (eOp opMul (eVar 2) (eVar 1)) (aCons (eVar 0) aNil))) (eC (.int 1)))) (eVar 2))) (eC (.int 0))))
    sNil)
def m_law_inverse (N : Nat) : Fn := mkFn 3 2 (b_law_inverse N)
def b_law_flat (N : Nat) : Sx := (sCons (sRet (eLive (fAdd (eDead (fAdd (eDead (fList (eOp opIx (eVar 0) (eC (.int 0))))) (eDead (fLst (aCons (eOp opIx (eVar 0) (eC (.int 1))) aNil))))) (eDead (fComp (iRange1 (eVar 1)) [3] (FM.gName 3) tYes (eCall bInt (aCons (eOp opEq (eVar 3) (eVar 2)) aNil)))))))
    sNil)
def m_law_flat (N : Nat) : Fn := mkFn 4 3 (b_law_flat N)
def l1_law_echelon (N : Nat) : Sx := (sCons (sAsg (eFn (m_law_plus N) (aCons (eVar 0) (aCons (eVar 5) (aCons (eOp1 opNeg (eOp opIx (eVar 5) (eVar 6))) (aCons (eVar 7) aNil))))) (FM.gName 5))
    sNil)
theorem l1_law_echelon_ap (N : Nat) (ρ : FM.Env) (s : S) : l1_law_echelon N ρ s = (sCons (sAsg (eFn (m_law_plus N) (aCons (eVar 0) (aCons (eVar 5) (aCons (eOp1 opNeg (eOp opIx (eVar 5) (eVar 6))) (aCons (eVar 7) aNil))))) (FM.gName 5))
    sNil) ρ s := rfl
def l2_law_echelon (N : Nat) : Sx := (sCons (sAsg (eFn (m_law_flat N) (aCons (eVar 4) (aCons (eCall bLen (aCons (eVar 1) aNil)) (aCons (eVar 3) aNil)))) (FM.gName 5))
    (sCons (sFor (iSeq (eVar 2)) (FM.gTup [(FM.gName 6), (FM.gName 7)]) (l1_law_echelon N))
    (sCons (sAsg (eDead (fComp (iRange1 (eOp opIx (eVar 0) (eC (.int 1)))) [6] (FM.gName 6) (tVal (eOp opNe (eOp opIx (eVar 5) (eVar 6)) (eC (.int 0)))) (eVar 6))) (FM.gName 8))
    (sCons (sIf (tVal (eOp opEq (eVar 8) (eDead (fLst aNil)))) (sCons (sRet (eTup (aCons (eVar 2) (aCons (eTupleF (fSl (eVar 5) (oSome (eOp opAdd (eOp opIx (eVar 0) (eC (.int 1))) (eC (.int 1)))) oNone)) aNil))))
    sNil) sNil)
    (sCons (sAsg (eFn (m_law_inverse N) (aCons (eOp opIx (eVar 0) (eC (.int 0))) (aCons (eOp opIx (eVar 5) (eOp opIx (eVar 8) (eC (.int 0)))) aNil))) (FM.gName 9))
    (sCons (sExpr (eChg cAppend (eVar 2) (aCons (eTup (aCons (eOp opIx (eVar 8) (eC (.int 0))) (aCons (eFn (m_law_plus N) (aCons (eVar 0) (aCons (eDead (fMul (eDead (fLst (aCons (eC (.int 0)) aNil))) (eCall bLen (aCons (eVar 5) aNil)))) (aCons (eVar 9) (aCons (eVar 5) aNil))))) aNil))) aNil)))
    sNil))))))
theorem l2_law_echelon_ap (N : Nat) (ρ : FM.Env) (s : S) : l2_law_echelon N ρ s = (sCons (sAsg (eFn (m_law_flat N) (aCons (eVar 4) (aCons (eCall bLen (aCons (eVar 1) aNil)) (aCons (eVar 3) aNil)))) (FM.gName 5))
    (sCons (sFor (iSeq (eVar 2)) (FM.gTup [(FM.gName 6), (FM.gName 7)]) (l1_law_echelon N))
    (sCons (sAsg (eDead (fComp (iRange1 (eOp opIx (eVar 0) (eC (.int 1)))) [6] (FM.gName 6) (tVal (eOp opNe (eOp opIx (eVar 5) (eVar 6)) (eC (.int 0)))) (eVar 6))) (FM.gName 8))
    (sCons (sIf (tVal (eOp opEq (eVar 8) (eDead (fLst aNil)))) (sCons (sRet (eTup (aCons (eVar 2) (aCons (eTupleF (fSl (eVar 5) (oSome (eOp opAdd (eOp opIx (eVar 0) (eC (.int 1))) (eC (.int 1)))) oNone)) aNil))))
    sNil) sNil)
    (sCons (sAsg (eFn (m_law_inverse N) (aCons (eOp opIx (eVar 0) (eC (.int 0))) (aCons (eOp opIx (eVar 5) (eOp opIx (eVar 8) (eC (.int 0)))) aNil))) (FM.gName 9))
    (sCons (sExpr (eChg cAppend (eVar 2) (aCons (eTup (aCons (eOp opIx (eVar 8) (eC (.int 0))) (aCons (eFn (m_law_plus N) (aCons (eVar 0) (aCons (eDead (fMul (eDead (fLst (aCons (eC (.int 0)) aNil))) (eCall bLen (aCons (eVar 5) aNil)))) (aCons (eVar 9) (aCons (eVar 5) aNil))))) aNil))) aNil)))
    sNil)))))) ρ s := rfl
def b_law_echelon (N : Nat) : Sx := (sCons (sAsg (eLive (fLst aNil)) (FM.gName 2))
    (sCons (sFor (FM.iEnum (eVar 1)) (FM.gTup [(FM.gName 3), (FM.gName 4)]) (l2_law_echelon N))
    (sCons (sRet (eTup (aCons (eVar 2) (aCons (eC .non) aNil))))
    sNil)))
def m_law_echelon (N : Nat) : Fn := mkFn 10 2 (b_law_echelon N)
def l1_law_given (N : Nat) : Sx := (sCons (sAsg (eFn (m_law_plus N) (aCons (eVar 0) (aCons (eVar 3) (aCons (eOp1 opNeg (eOp opIx (eVar 3) (eVar 4))) (aCons (eVar 5) aNil))))) (FM.gName 3))
    sNil)
theorem l1_law_given_ap (N : Nat) (ρ : FM.Env) (s : S) : l1_law_given N ρ s = (sCons (sAsg (eFn (m_law_plus N) (aCons (eVar 0) (aCons (eVar 3) (aCons (eOp1 opNeg (eOp opIx (eVar 3) (eVar 4))) (aCons (eVar 5) aNil))))) (FM.gName 3))
    sNil) ρ s := rfl
def b_law_given (N : Nat) : Sx := (sCons (sAsg (eDead (fAdd (eDead (fList (eVar 2))) (eDead (fMul (eDead (fLst (aCons (eC (.int 0)) aNil))) (eOp opAdd (eC (.int 1)) (eCall bLen (aCons (eVar 1) aNil))))))) (FM.gName 3))
    (sCons (sFor (iSeq (eOp opIx (eFn (m_law_echelon N) (aCons (eVar 0) (aCons (eVar 1) aNil))) (eC (.int 0)))) (FM.gTup [(FM.gName 4), (FM.gName 5)]) (l1_law_given N))
    (sCons (sIf (tVal (eOp opNe (eDead (fComp (iRange1 (eOp opIx (eVar 0) (eC (.int 1)))) [4] (FM.gName 4) (tVal (eOp opNe (eOp opIx (eVar 3) (eVar 4)) (eC (.int 0)))) (eVar 4))) (eDead (fLst aNil)))) (sCons (sRet (eC .non))
    sNil) sNil)
    (sCons (sAsg (eFn (m_law_plus N) (aCons (eVar 0) (aCons (eDead (fMul (eDead (fLst (aCons (eC (.int 0)) aNil))) (eOp opAdd (eC (.int 1)) (eCall bLen (aCons (eVar 1) aNil))))) (aCons (eOp1 opNeg (eC (.int 1))) (aCons (eDead (fSl (eVar 3) (oSome (eOp opIx (eVar 0) (eC (.int 1)))) oNone)) aNil))))) (FM.gName 6))
    (sCons (sRet (eTup (aCons (eOp opIx (eVar 6) (eC (.int 0))) (aCons (eTupleF (fSl (eVar 6) (oSome (eC (.int 1))) oNone)) aNil))))
    sNil)))))
def m_law_given (N : Nat) : Fn := mkFn 7 3 (b_law_given N)
def b_law_answer (N : Nat) : Sx := (sCons (sAsg (eFn (m_law_given N) (aCons (eVar 0) (aCons (eVar 1) (aCons (eOp opIx (eVar 2) (eC (.int 1))) aNil)))) (FM.gName 3))
    (sCons (sIf (tVal (eOp opEq (eOp opIx (eVar 2) (eC (.int 0))) (eC (.str "ask")))) (sCons (sRet (eIf (tVal (eIsN (eVar 3))) (eC (.str "open")) (eOp opIx (eVar 3) (eC (.int 0)))))
    sNil) sNil)
    (sCons (sIf (tVal (eIsN (eVar 3))) (sCons (sRet (eC (.str "new")))
    sNil) sNil)
    (sCons (sRet (eIf (tVal (eOp opEq (eOp opIx (eVar 3) (eC (.int 0))) (eOp opIx (eVar 2) (eC (.int 2))))) (eC (.str "known")) (eC (.str "clash"))))
    sNil))))
def m_law_answer (N : Nat) : Fn := mkFn 4 3 (b_law_answer N)
def l1_law_answers_by (N : Nat) : Sx := (sCons (sAsg (eFn (m_law_answer N) (aCons (eVar 0) (aCons (eVar 2) (aCons (eVar 4) aNil)))) (FM.gName 5))
    (sCons (sIf (tVal (eOp opEq (eVar 5) (eC (.str "new")))) (sCons (sExpr (eChg cAppend (eVar 2) (aCons (eTup (aCons (eOp opIx (eVar 4) (eC (.int 1))) (aCons (eOp opIx (eVar 4) (eC (.int 2))) aNil))) aNil)))
    sNil) sNil)
    (sCons (sExpr (eChg cAppend (eVar 3) (aCons (eVar 5) aNil)))
    sNil)))
theorem l1_law_answers_by_ap (N : Nat) (ρ : FM.Env) (s : S) : l1_law_answers_by N ρ s = (sCons (sAsg (eFn (m_law_answer N) (aCons (eVar 0) (aCons (eVar 2) (aCons (eVar 4) aNil)))) (FM.gName 5))
    (sCons (sIf (tVal (eOp opEq (eVar 5) (eC (.str "new")))) (sCons (sExpr (eChg cAppend (eVar 2) (aCons (eTup (aCons (eOp opIx (eVar 4) (eC (.int 1))) (aCons (eOp opIx (eVar 4) (eC (.int 2))) aNil))) aNil)))
    sNil) sNil)
    (sCons (sExpr (eChg cAppend (eVar 3) (aCons (eVar 5) aNil)))
    sNil))) ρ s := rfl
def b_law_answers_by (N : Nat) : Sx := (sCons (sPar 2 3 (eLive (fLst aNil)) (eLive (fLst aNil)))
    (sCons (sFor (iSeq (eVar 1)) (FM.gName 4) (l1_law_answers_by N))
    (sCons (sRet (eVar 3))
    sNil)))
def m_law_answers_by (N : Nat) : Fn := mkFn 6 2 (b_law_answers_by N)
def b_law_deed (N : Nat) : Sx := (sCons (sAsg (eFn (m_law_one N) (aCons (eVar 0) (aCons (eVar 2) aNil))) (FM.gName 4))
    (sCons (sIf (tVal (eOp opLt (eFn (m_law_take N) (aCons (eVar 0) (aCons (eC (.int 5)) aNil))) (eC (.int 2)))) (sCons (sRet (eTup (aCons (eC (.str "ask")) (aCons (eVar 4) aNil))))
    sNil) sNil)
    (sCons (sAsg (eFn (m_law_comes_to N) (aCons (eVar 1) (aCons (eVar 3) (aCons (eVar 4) aNil)))) (FM.gName 5))
    (sCons (sRet (eTup (aCons (eC (.str "tell")) (aCons (eVar 4) (aCons (eIf (tVal (eOp opEq (eFn (m_law_take N) (aCons (eVar 0) (aCons (eC (.int 6)) aNil))) (eC (.int 0)))) (eFn (m_law_take N) (aCons (eVar 0) (aCons (eOp opIx (eVar 1) (eC (.int 0))) aNil))) (eVar 5)) aNil)))))
    sNil))))
def m_law_deed (N : Nat) : Fn := mkFn 6 4 (b_law_deed N)
def l1_law_history (N : Nat) : Sx := (sCons (sAsg (eFn (m_law_stretch N) (aCons (eVar 0) (aCons (eOp opMul (eC (.int 10)) (eVar 11)) (aCons (eIf (tVal (eOp opGt (eFn (m_law_take N) (aCons (eVar 0) (aCons (eC (.int 4)) aNil))) (eC (.int 0)))) (eVar 8) (eFn (m_law_take N) (aCons (eVar 0) (aCons (eC (.int 4)) aNil)))) aNil)))) (FM.gTup [(FM.gName 12), (FM.gName 13)]))
    (sCons (sExpr (eChg cAppend (eVar 10) (aCons (eTup (aCons (eOp opIx (eVar 6) (eVar 11)) (aCons (eVar 12) (aCons (eVar 13) (aCons (eOp opIx (eVar 7) (eVar 11)) aNil))))) aNil)))
    sNil))
theorem l1_law_history_ap (N : Nat) (ρ : FM.Env) (s : S) : l1_law_history N ρ s = (sCons (sAsg (eFn (m_law_stretch N) (aCons (eVar 0) (aCons (eOp opMul (eC (.int 10)) (eVar 11)) (aCons (eIf (tVal (eOp opGt (eFn (m_law_take N) (aCons (eVar 0) (aCons (eC (.int 4)) aNil))) (eC (.int 0)))) (eVar 8) (eFn (m_law_take N) (aCons (eVar 0) (aCons (eC (.int 4)) aNil)))) aNil)))) (FM.gTup [(FM.gName 12), (FM.gName 13)]))
    (sCons (sExpr (eChg cAppend (eVar 10) (aCons (eTup (aCons (eOp opIx (eVar 6) (eVar 11)) (aCons (eVar 12) (aCons (eVar 13) (aCons (eOp opIx (eVar 7) (eVar 11)) aNil))))) aNil)))
    sNil)) ρ s := rfl
def b_law_history (N : Nat) : Sx := (sCons (sAsg (eTup (aCons (eFn (m_law_one N) (aCons (eVar 0) (aCons (eDead (fLst (aCons (eVar 2) (aCons (eVar 2) (aCons (eOp opSub (eVar 2) (eC (.int 1))) (aCons (eOp opDiv (eVar 2) (eC (.int 2))) (aCons (eFn (m_law_take N) (aCons (eVar 0) (aCons (eOp opAdd (eVar 2) (eC (.int 1))) aNil))) aNil))))))) aNil))) (aCons (eFn (m_law_world N) (aCons (eVar 0) (aCons (eVar 1) aNil))) aNil))) (FM.gTup [(FM.gName 3), (FM.gName 4)]))
    (sCons (sAsg (eFn (m_law_sums N) (aCons (eVar 0) (aCons (eVar 1) (aCons (eFn (m_law_one N) (aCons (eVar 0) (aCons (eDead (fLst (aCons (eC (.int 2)) (aCons (eC (.int 3)) (aCons (eC (.int 4)) (aCons (eC (.int 6)) aNil)))))) aNil))) aNil)))) (FM.gName 5))
    (sCons (sAsg (eDead (fComp (iRange1 (eVar 3)) [14] (FM.gName 14) tYes (eFn (m_law_deed N) (aCons (eVar 0) (aCons (eVar 1) (aCons (eVar 5) (aCons (eVar 4) aNil))))))) (FM.gName 6))
    (sCons (sPar 7 8 (eFn (m_law_answers_by N) (aCons (eVar 1) (aCons (eVar 6) aNil))) (eFn (m_law_one N) (aCons (eVar 0) (aCons (eDead (fLst (aCons (eC (.int 2)) (aCons (eC (.int 3)) (aCons (eC (.int 3)) (aCons (eC (.int 2)) (aCons (eC (.int 1)) (aCons (eC (.int 0)) aNil)))))))) aNil))))
    (sCons (sAsg (eFn (m_law_mixed N) (aCons (eVar 0) (aCons (eDead (fRange (eVar 3))) aNil))) (FM.gName 9))
    (sCons (sAsg (eLive (fLst aNil)) (FM.gName 10))
    (sCons (sFor (iSeq (eVar 9)) (FM.gName 11) (l1_law_history N))
    (sCons (sRet (eTup (aCons (eTup (aCons (eVar 1) (aCons (eCall bTuple (aCons (eVar 10) aNil)) aNil))) (aCons (eTupleF (fComp (iRange1 (eVar 3)) [11] (FM.gName 11) tYes (eMeth bIndex (eVar 9) (aCons (eVar 11) aNil)))) aNil))))
    sNil))))))))
def m_law_history (N : Nat) : Fn := mkFn 15 3 (b_law_history N)
def l1_law_some_history (N : Nat) : Sx := (sCons (sAsg (eFn (m_law_bent_history N) (aCons (eVar 0) (aCons (eVar 3) aNil))) (FM.gName 3))
    sNil)
theorem l1_law_some_history_ap (N : Nat) (ρ : FM.Env) (s : S) : l1_law_some_history N ρ s = (sCons (sAsg (eFn (m_law_bent_history N) (aCons (eVar 0) (aCons (eVar 3) aNil))) (FM.gName 3))
    sNil) ρ s := rfl
def b_law_some_history (N : Nat) : Sx := (sCons (sAsg (eOp opIx (eFn (m_law_history N) (aCons (eVar 0) (aCons (eVar 1) (aCons (eVar 2) aNil)))) (eC (.int 0))) (FM.gName 3))
    (sCons (sFor (iRange1 (eFn (m_law_one N) (aCons (eVar 0) (aCons (eDead (fLst (aCons (eC (.int 0)) (aCons (eC (.int 1)) (aCons (eC (.int 0)) (aCons (eC (.int 1)) (aCons (eC (.int 2)) aNil))))))) aNil)))) (FM.gName 4) (l1_law_some_history N))
    (sCons (sRet (eVar 3))
    sNil)))
def m_law_some_history (N : Nat) : Fn := mkFn 5 3 (b_law_some_history N)
def b_law_house (N : Nat) : Sx := (sCons (sAsg (eIf (tVal (eOp opGe (eVar 1) (eC (.int 3)))) (eDead (fLst (aCons (eVar 1) (aCons (eC (.int 2)) (aCons (eC (.int 3)) (aCons (eC (.int 1)) (aCons (eVar 1) (aCons (eC (.int 0)) aNil)))))))) (eDead (fRange (eOp opAdd (eVar 1) (eC (.int 1)))))) (FM.gName 2))
    (sCons (sRet (eTup (aCons (eFn (m_law_one N) (aCons (eVar 0) (aCons (eDead (fLst (aCons (eC (.int 2)) (aCons (eC (.int 3)) (aCons (eC (.int 2)) (aCons (eC (.int 5)) (aCons (eC (.int 7)) aNil))))))) aNil))) (aCons (eFn (m_law_one N) (aCons (eVar 0) (aCons (eVar 2) aNil))) aNil))))
    sNil))
def m_law_house (N : Nat) : Fn := mkFn 3 2 (b_law_house N)
def b_law_bag (N : Nat) : Sx := (sCons (sRet (eLive (fLst (aCons (eC (.int 0)) (aCons (eC (.int 1234567891)) (aCons (eC (.int 0)) (aCons (eDead (fComp (iSeq (eDead (fSl (eVar 0) oNone (oSome (eC (.int 63)))))) [1] (FM.gName 1) tYes (eCall bAbs (aCons (eVar 1) aNil)))) aNil)))))))
    sNil)
def m_law_bag (N : Nat) : Fn := mkFn 2 1 (b_law_bag N)
def l1_law (N : Nat) : Sx := (sCons (sAsg (eDead (fComp (iSeq (eVar 10)) [17] (FM.gName 17) (tVal (eOp opNotIn (eVar 17) (eVar 14))) (eVar 17))) (FM.gName 15))
    (sCons (sExpr (eChg cAppend (eVar 13) (aCons (eOp opAdd (eOp opAdd (eFn (m_law_by_begins N) (aCons (eVar 7) (aCons (eVar 14) aNil))) (eTup (aCons (eVar 9) aNil))) (eFn (m_law_by_begins N) (aCons (eVar 7) (aCons (eVar 15) aNil)))) aNil)))
    sNil))
theorem l1_law_ap (N : Nat) (ρ : FM.Env) (s : S) : l1_law N ρ s = (sCons (sAsg (eDead (fComp (iSeq (eVar 10)) [17] (FM.gName 17) (tVal (eOp opNotIn (eVar 17) (eVar 14))) (eVar 17))) (FM.gName 15))
    (sCons (sExpr (eChg cAppend (eVar 13) (aCons (eOp opAdd (eOp opAdd (eFn (m_law_by_begins N) (aCons (eVar 7) (aCons (eVar 14) aNil))) (eTup (aCons (eVar 9) aNil))) (eFn (m_law_by_begins N) (aCons (eVar 7) (aCons (eVar 15) aNil)))) aNil)))
    sNil)) ρ s := rfl
def l2_law (N : Nat) : Sx := (sCons (sAsg (eDead (fComp (iRange1 (eCall bLen (aCons (eVar 7) aNil))) [17] (FM.gName 17) (tVal (eOp opNe (eVar 17) (eVar 9))) (eVar 17))) (FM.gName 10))
    (sCons (sAsg (eDead (fComp (iSeq (eVar 10)) [17] (FM.gName 17) (tVal (eFn (m_law_is_ahead N) (aCons (eVar 7) (aCons (eVar 17) (aCons (eVar 9) aNil))))) (eVar 17))) (FM.gName 11))
    (sCons (sAsg (eDead (fComp (iSeq (eVar 10)) [17] (FM.gName 17) (tNot (tVal (eFn (m_law_is_ahead N) (aCons (eVar 7) (aCons (eVar 9) (aCons (eVar 17) aNil)))))) (eVar 17))) (FM.gName 12))
    (sCons (sAsg (eLive (fLst aNil)) (FM.gName 13))
    (sCons (sFor (iSeq (eTup (aCons (eVar 11) (aCons (eVar 12) aNil)))) (FM.gName 14) (l1_law N))
    (sCons (sAsg (eDead (fLst (aCons (eFn (m_early_order N) (aCons (eVar 6) (aCons (eVar 9) aNil))) (aCons (eFn (m_late_order N) (aCons (eVar 6) (aCons (eVar 9) aNil))) aNil)))) (FM.gName 16))
    (sCons (sIf (tOr (tNot (tVal (eFn (m_law_alike N) (aCons (eVar 16) (aCons (eVar 13) aNil))))) (tVal (eOp opNe (eDead (fComp (iSeq (eVar 13)) [18] (FM.gName 18) (tNot (tVal (eFn (m_law_is_order N) (aCons (eVar 7) (aCons (eVar 18) aNil))))) (eC (.int 1)))) (eDead (fLst aNil))))) (sCons (sRet (eC (.bl false)))
    sNil) sNil)
    sNil)))))))
theorem l2_law_ap (N : Nat) (ρ : FM.Env) (s : S) : l2_law N ρ s = (sCons (sAsg (eDead (fComp (iRange1 (eCall bLen (aCons (eVar 7) aNil))) [17] (FM.gName 17) (tVal (eOp opNe (eVar 17) (eVar 9))) (eVar 17))) (FM.gName 10))
    (sCons (sAsg (eDead (fComp (iSeq (eVar 10)) [17] (FM.gName 17) (tVal (eFn (m_law_is_ahead N) (aCons (eVar 7) (aCons (eVar 17) (aCons (eVar 9) aNil))))) (eVar 17))) (FM.gName 11))
    (sCons (sAsg (eDead (fComp (iSeq (eVar 10)) [17] (FM.gName 17) (tNot (tVal (eFn (m_law_is_ahead N) (aCons (eVar 7) (aCons (eVar 9) (aCons (eVar 17) aNil)))))) (eVar 17))) (FM.gName 12))
    (sCons (sAsg (eLive (fLst aNil)) (FM.gName 13))
    (sCons (sFor (iSeq (eTup (aCons (eVar 11) (aCons (eVar 12) aNil)))) (FM.gName 14) (l1_law N))
    (sCons (sAsg (eDead (fLst (aCons (eFn (m_early_order N) (aCons (eVar 6) (aCons (eVar 9) aNil))) (aCons (eFn (m_late_order N) (aCons (eVar 6) (aCons (eVar 9) aNil))) aNil)))) (FM.gName 16))
    (sCons (sIf (tOr (tNot (tVal (eFn (m_law_alike N) (aCons (eVar 16) (aCons (eVar 13) aNil))))) (tVal (eOp opNe (eDead (fComp (iSeq (eVar 13)) [18] (FM.gName 18) (tNot (tVal (eFn (m_law_is_order N) (aCons (eVar 7) (aCons (eVar 18) aNil))))) (eC (.int 1)))) (eDead (fLst aNil))))) (sCons (sRet (eC (.bl false)))
    sNil) sNil)
    sNil))))))) ρ s := rfl
def l3_law (N : Nat) : Sx := (sCons (sAsg (eTup (aCons (eOp opIx (eVar 6) (eC (.int 1))) (aCons (eCall bRepr (aCons (eVar 6) aNil)) aNil))) (FM.gTup [(FM.gName 7), (FM.gName 8)]))
    (sCons (sFor (iSeq (eDead (fSl (eFn (m_law_mixed N) (aCons (eVar 1) (aCons (eDead (fRange (eCall bLen (aCons (eVar 7) aNil)))) aNil))) oNone (oSome (eC (.int 6)))))) (FM.gName 9) (l2_law N))
    (sCons (sIf (tVal (eOp opNe (eCall bRepr (aCons (eVar 6) aNil)) (eVar 8))) (sCons (sRet (eC (.bl false)))
    sNil) sNil)
    sNil)))
theorem l3_law_ap (N : Nat) (ρ : FM.Env) (s : S) : l3_law N ρ s = (sCons (sAsg (eTup (aCons (eOp opIx (eVar 6) (eC (.int 1))) (aCons (eCall bRepr (aCons (eVar 6) aNil)) aNil))) (FM.gTup [(FM.gName 7), (FM.gName 8)]))
    (sCons (sFor (iSeq (eDead (fSl (eFn (m_law_mixed N) (aCons (eVar 1) (aCons (eDead (fRange (eCall bLen (aCons (eVar 7) aNil)))) aNil))) oNone (oSome (eC (.int 6)))))) (FM.gName 9) (l2_law N))
    (sCons (sIf (tVal (eOp opNe (eCall bRepr (aCons (eVar 6) aNil)) (eVar 8))) (sCons (sRet (eC (.bl false)))
    sNil) sNil)
    sNil))) ρ s := rfl
def l4_law (N : Nat) : Sx := (sCons (sAsg (eFn (m_law_house N) (aCons (eVar 1) (aCons (eC (.int 2)) aNil))) (FM.gName 3))
    (sCons (sAsg (eFn (m_law_some_history N) (aCons (eVar 1) (aCons (eVar 3) (aCons (eFn (m_law_one N) (aCons (eVar 1) (aCons (eDead (fLst (aCons (eC (.int 10)) (aCons (eC (.int 10)) (aCons (eC (.int 24)) aNil))))) aNil))) aNil)))) (FM.gName 4))
    (sCons (sAsg (eFn (m_law_plan N) (aCons (eVar 1) (aCons (eVar 3) (aCons (eFn (m_law_one N) (aCons (eVar 1) (aCons (eDead (fLst (aCons (eC (.int 9)) (aCons (eC (.int 20)) aNil)))) aNil))) aNil)))) (FM.gName 5))
    (sCons (sFor (iSeq (eTup (aCons (eFn (m_law_far N) (aCons (eVar 1) (aCons (eVar 4) aNil))) (aCons (eFn (m_law_far N) (aCons (eVar 1) (aCons (eVar 5) aNil))) aNil)))) (FM.gName 6) (l3_law N))
    sNil))))
theorem l4_law_ap (N : Nat) (ρ : FM.Env) (s : S) : l4_law N ρ s = (sCons (sAsg (eFn (m_law_house N) (aCons (eVar 1) (aCons (eC (.int 2)) aNil))) (FM.gName 3))
    (sCons (sAsg (eFn (m_law_some_history N) (aCons (eVar 1) (aCons (eVar 3) (aCons (eFn (m_law_one N) (aCons (eVar 1) (aCons (eDead (fLst (aCons (eC (.int 10)) (aCons (eC (.int 10)) (aCons (eC (.int 24)) aNil))))) aNil))) aNil)))) (FM.gName 4))
    (sCons (sAsg (eFn (m_law_plan N) (aCons (eVar 1) (aCons (eVar 3) (aCons (eFn (m_law_one N) (aCons (eVar 1) (aCons (eDead (fLst (aCons (eC (.int 9)) (aCons (eC (.int 20)) aNil)))) aNil))) aNil)))) (FM.gName 5))
    (sCons (sFor (iSeq (eTup (aCons (eFn (m_law_far N) (aCons (eVar 1) (aCons (eVar 4) aNil))) (aCons (eFn (m_law_far N) (aCons (eVar 1) (aCons (eVar 5) aNil))) aNil)))) (FM.gName 6) (l3_law N))
    sNil)))) ρ s := rfl
def b_law (N : Nat) : Sx := (sCons (sAsg (eFnL (m_law_bag N) (aCons (eVar 0) aNil)) (FM.gName 1))
    (sCons (sFor (iRange1 (eC (.int 2))) (FM.gName 2) (l4_law N))
    (sCons (sRet (eC (.bl true)))
    sNil)))
def m_law (N : Nat) : Fn := mkFn 19 1 (b_law N)
end FT

set_option autoImplicit false
namespace FT
open PySem PySem.Spec PyProof.Rows L2 FM
/-! the text: derivations -/
structure NoB (mg : PySem.Str → Option Value) : Prop where
  abs_ : mg "abs" = none
  bool_ : mg "bool" = none
  enumerate_ : mg "enumerate" = none
  int_ : mg "int" = none
  isinstance_ : mg "isinstance" = none
  len_ : mg "len" = none
  list_ : mg "list" = none
  range_ : mg "range" = none
  repr_ : mg "repr" = none
  sorted_ : mg "sorted" = none
  sum_ : mg "sum" = none
  tuple_ : mg "tuple" = none
  zip_ : mg "zip" = none
section
variable [Tbl]
variable {P : Program} {w : World} {K : PySem.W.Frag} {mg : PySem.Str → Option Value} {base : Heap} {f : Addr} {fd : FuncData}
theorem sc_lot_of : FnScope ["what", "is_wanted", "index"] ["what", "is_wanted"] (defScope (topS 2)) := ⟨rfl, rfl, rfl, by decide +kernel, rfl, by decide +kernel, by decide +kernel⟩
theorem sc_law_take : FnScope ["_law_bag_here", "_law_many", "_law_cell", "_law_stirred", "_law_value", "_law_begin", "_law_second"] ["_law_bag_here", "_law_many"] (defScope (topS 12)) := ⟨rfl, rfl, rfl, by decide +kernel, rfl, by decide +kernel, by decide +kernel⟩
theorem ok_law_take (N : Nat) (F : L2.Fun K "_law_take" "_law_take" (topS 12) f fd) (B : NoB mg)  : FnG P w K mg base CX0 1 f fd ["_law_bag_here", "_law_many"] (spOf K 2 (m_law_take N)) := by
  have z_int := B.int_
  refine fn_M (mb := b_law_take N) F sc_law_take rfl rfl fun cdv E => ?_
  have c : CxG (bX P w K mg base 0 ["_law_bag_here", "_law_many", "_law_cell", "_law_stirred", "_law_value", "_law_begin", "_law_second"] "_law_take" (defScope (topS 12)) f cdv E) K 0 := bX_cx sc_law_take
  exact (ms_cons (ms_if (mt_cmp (os_eq c.toCxF) (me_ix c.toCxF (me_var (j := 0) (fun _ => rfl) fun _ => .inl rfl) me_int) me_int) (ms_cons (ms_set (k := 2) c.nd (fun _ => rfl) (fun _ => .inl rfl) (me_ix c.toCxF (me_dead (mf_add (me_dead (mf_sl c.toCxF (me_ix c.toCxF (me_var (j := 0) (fun _ => rfl) fun _ => .inl rfl) me_int) (mo_some (me_ix c.toCxF (me_var (j := 0) (fun _ => rfl) fun _ => .inl rfl) me_int)) mo_none)) (me_dead (mf_lst (ma_cons me_int ma_nil))))) me_int))
      (ms_cons (ms_augSub is_add c.toCxF (me_var (j := 0) (fun _ => rfl) fun _ => .inl rfl) me_int me_int)
      (ms_cons (ms_if (mt_cmp os_ge (me_var (j := 2) (fun _ => rfl) fun _ => .inl rfl) (me_op os_pow me_int me_int)) (ms_cons (ms_sub (me_var (j := 2) (fun _ => rfl) fun _ => .inl rfl) (me_var (j := 0) (fun _ => rfl) fun _ => .inl rfl) me_int)
      ms_nil) ms_nil)
      (ms_cons (ms_set (k := 3) c.nd (fun _ => rfl) (fun _ => .inl rfl) (me_op (os_add c.toCxF) (me_op (os_add c.toCxF) (me_op os_mul (me_ix c.toCxF (me_var (j := 0) (fun _ => rfl) fun _ => .inl rfl) me_int) me_int) (me_op os_mod (me_callTy (x := "int") (cs_int) (fun _ => rfl) (fun _ => z_int) (by decide +kernel) (ma_cons (me_var (j := 2) (fun _ => rfl) fun _ => .inl rfl) ma_nil)) me_int)) (me_op os_mul me_int (me_ix c.toCxF (me_var (j := 0) (fun _ => rfl) fun _ => .inl rfl) me_int))))
      (ms_cons (ms_sub (me_op os_mod (me_callTy (x := "int") (cs_int) (fun _ => rfl) (fun _ => z_int) (by decide +kernel) (ma_cons (me_var (j := 3) (fun _ => rfl) fun _ => .inl rfl) ma_nil)) me_int) (me_var (j := 0) (fun _ => rfl) fun _ => .inl rfl) me_int)
      ms_nil))))) ms_nil)
      (ms_cons (ms_if (mt_cmp os_gt (me_ix c.toCxF (me_var (j := 0) (fun _ => rfl) fun _ => .inl rfl) me_int) me_int) (ms_cons (ms_set (k := 4) c.nd (fun _ => rfl) (fun _ => .inl rfl) (me_op os_mod (me_callTy (x := "int") (cs_int) (fun _ => rfl) (fun _ => z_int) (by decide +kernel) (ma_cons (me_ix c.toCxF (me_var (j := 0) (fun _ => rfl) fun _ => .inl rfl) me_int) ma_nil)) (me_var (j := 1) (fun _ => rfl) fun _ => .inl rfl)))
      (ms_cons (ms_sub (me_op os_div (me_callTy (x := "int") (cs_int) (fun _ => rfl) (fun _ => z_int) (by decide +kernel) (ma_cons (me_ix c.toCxF (me_var (j := 0) (fun _ => rfl) fun _ => .inl rfl) me_int) ma_nil)) (me_var (j := 1) (fun _ => rfl) fun _ => .inl rfl)) (me_var (j := 0) (fun _ => rfl) fun _ => .inl rfl) me_int)
      (ms_cons (ms_ret (me_var (j := 4) (fun _ => rfl) fun _ => .inl rfl))
      ms_nil))) ms_nil)
      (ms_cons (ms_set (k := 5) c.nd (fun _ => rfl) (fun _ => .inl rfl) (me_op os_mod (me_callTy (x := "int") (cs_int) (fun _ => rfl) (fun _ => z_int) (by decide +kernel) (ma_cons (me_op os_mul (me_op (os_add c.toCxF) (me_ix c.toCxF (me_var (j := 0) (fun _ => rfl) fun _ => .inl rfl) me_int) me_int) me_int) ma_nil)) me_int))
      (ms_cons (ms_set (k := 6) c.nd (fun _ => rfl) (fun _ => .inl rfl) (me_op os_mod (me_callTy (x := "int") (cs_int) (fun _ => rfl) (fun _ => z_int) (by decide +kernel) (ma_cons (me_op os_mul (me_op os_mod (me_callTy (x := "int") (cs_int) (fun _ => rfl) (fun _ => z_int) (by decide +kernel) (ma_cons (me_op os_mul (me_var (j := 5) (fun _ => rfl) fun _ => .inl rfl) (me_var (j := 5) (fun _ => rfl) fun _ => .inl rfl)) ma_nil)) me_int) me_int) ma_nil)) me_int))
      (ms_cons (ms_ret (me_op os_mod (me_callTy (x := "int") (cs_int) (fun _ => rfl) (fun _ => z_int) (by decide +kernel) (ma_cons (me_op os_div (me_var (j := 6) (fun _ => rfl) fun _ => .inl rfl) me_int) ma_nil)) (me_var (j := 1) (fun _ => rfl) fun _ => .inl rfl)))
      ms_nil)))))
theorem sc_law_one : FnScope ["_law_bag_here", "_law_things"] ["_law_bag_here", "_law_things"] (defScope (topS 13)) := ⟨rfl, rfl, rfl, by decide +kernel, rfl, by decide +kernel, by decide +kernel⟩
theorem ok_law_one (N : Nat) (F : L2.Fun K "_law_one" "_law_one" (topS 13) f fd) (B : NoB mg) (h0 : Has P w K mg base 1 "_law_take" ["_law_bag_here", "_law_many"] 2 (m_law_take N)) : FnG P w K mg base CX0 2 f fd ["_law_bag_here", "_law_things"] (spOf K 2 (m_law_one N)) := by
  have z_len := B.len_
  obtain ⟨f0, d0, g0, k0, b0, F0⟩ := h0
  have F0 := F0.up (k := 1) (by decide)
  refine fn_M (mb := b_law_one N) F sc_law_one rfl rfl fun cdv E => ?_
  have c : CxG (bX P w K mg base 1 ["_law_bag_here", "_law_things"] "_law_one" (defScope (topS 13)) f cdv E) K 1 := bX_cx sc_law_one
  exact (ms_cons (ms_ret (me_ix c.toCxF (me_var (j := 1) (fun _ => rfl) fun _ => .inl rfl) (me_fn (fun _ => F0) c (fun _ => rfl) (fun _ => g0) (fun _ => k0) (fun _ => b0) (fun _ => p0) (ma_cons (me_var (j := 0) (fun _ => rfl) fun _ => .inl rfl) (ma_cons (me_callB (x := "len") (cs_len c.toCxF) (fun _ => rfl) (fun _ => z_len) (by decide +kernel) (ma_cons (me_var (j := 1) (fun _ => rfl) fun _ => .inl rfl) ma_nil)) ma_nil)))))
      ms_nil)
theorem sc_law_far : FnScope ["_law_bag_here", "_law_what", "_law_by", "_law_calls", "_law_call"] ["_law_bag_here", "_law_what"] (defScope (topS 40)) := ⟨rfl, rfl, rfl, by decide +kernel, rfl, by decide +kernel, by decide +kernel⟩
theorem ok_law_far (N : Nat) (F : L2.Fun K "_law_far" "_law_far" (topS 40) f fd) (B : NoB mg) (h0 : Has P w K mg base 2 "_law_one" ["_law_bag_here", "_law_things"] 2 (m_law_one N)) : FnG P w K mg base CX0 3 f fd ["_law_bag_here", "_law_what"] (spOf K 2 (m_law_far N)) := by
  have z_tuple := B.tuple_
  obtain ⟨f0, d0, g0, k0, b0, F0⟩ := h0
  have F0 := F0.up (k := 2) (by decide)
  refine fn_M (mb := b_law_far N) F sc_law_far rfl rfl fun cdv E => ?_
  have c : CxG (bX P w K mg base 2 ["_law_bag_here", "_law_what", "_law_by", "_law_calls", "_law_call"] "_law_far" (defScope (topS 40)) f cdv E) K 2 := bX_cx sc_law_far
  exact (ms_cons (ms_set (k := 2) c.nd (fun _ => rfl) (fun _ => .inr rfl) (me_fn (fun _ => F0) c (fun _ => rfl) (fun _ => g0) (fun _ => k0) (fun _ => b0) (fun _ => p0) (ma_cons (me_var (j := 0) (fun _ => rfl) fun _ => .inl rfl) (ma_cons (me_dead (mf_lst (ma_cons me_int (ma_cons me_int (ma_cons me_int (ma_cons me_int (ma_cons me_int (ma_cons (me_neg me_int) ma_nil)))))))) ma_nil))))
      (ms_cons (ms_setLcD (i := 3) c.toCxF (fun _ => rfl) (fun _ => rfl) (fun _ => rfl) (mi_seq c.toCxF (me_ix c.toCxF (me_var (j := 1) (fun _ => rfl) fun _ => .inl rfl) me_int)) (own := [("_law_call", 4)]) (fun _ => blkOk_by rfl) (mg_name (k := 4) c.blk.nd (fun _ => rfl) fun _ => .inl rfl) mts_nil (me_op (os_add c.blk.toCxF) (me_tup (ma_cons (me_ix c.blk.toCxF (me_var (j := 4) (fun _ => rfl) fun _ => .inl rfl) me_int) (ma_cons (me_op (os_add c.blk.toCxF) (me_ix c.blk.toCxF (me_var (j := 4) (fun _ => rfl) fun _ => .inl rfl) me_int) (me_var (j := 2) (fun _ => rfl) fun _ => .inr (.inl rfl))) (ma_cons (me_if (mt_isN (me_ix c.blk.toCxF (me_var (j := 4) (fun _ => rfl) fun _ => .inl rfl) me_int)) me_non (me_op (os_add c.blk.toCxF) (me_ix c.blk.toCxF (me_var (j := 4) (fun _ => rfl) fun _ => .inl rfl) me_int) (me_var (j := 2) (fun _ => rfl) fun _ => .inr (.inl rfl)))) ma_nil)))) (me_slT c.blk.toCxF (me_var (j := 4) (fun _ => rfl) fun _ => .inl rfl) (mo_some me_int) mo_none)))
      (ms_cons (ms_ret (me_tup (ma_cons (me_ix c.toCxF (me_var (j := 1) (fun _ => rfl) fun _ => .inl rfl) me_int) (ma_cons (me_callTy (x := "tuple") (cs_tuple c.toCxF) (fun _ => rfl) (fun _ => z_tuple) (by decide +kernel) (ma_cons (me_var (j := 3) (fun _ => rfl) fun _ => .inl rfl) ma_nil)) ma_nil))))
      ms_nil)))
theorem sc_law_mixed : FnScope ["_law_bag_here", "_law_things", "_law_found", "_law_thing"] ["_law_bag_here", "_law_things"] (defScope (topS 14)) := ⟨rfl, rfl, rfl, by decide +kernel, rfl, by decide +kernel, by decide +kernel⟩
theorem ok_law_mixed (N : Nat) (F : L2.Fun K "_law_mixed" "_law_mixed" (topS 14) f fd) (B : NoB mg) (h0 : Has P w K mg base 1 "_law_take" ["_law_bag_here", "_law_many"] 2 (m_law_take N)) : FnG P w K mg base CX0 2 f fd ["_law_bag_here", "_law_things"] (spOf K 2 (m_law_mixed N)) := by
  have z_len := B.len_
  obtain ⟨f0, d0, g0, k0, b0, F0⟩ := h0
  have F0 := F0.up (k := 1) (by decide)
  refine fn_M (mb := b_law_mixed N) F sc_law_mixed rfl rfl fun cdv E => ?_
  have c : CxG (bX P w K mg base 1 ["_law_bag_here", "_law_things", "_law_found", "_law_thing"] "_law_mixed" (defScope (topS 14)) f cdv E) K 1 := bX_cx sc_law_mixed
  exact (ms_cons (ms_set (k := 2) c.nd (fun _ => rfl) (fun _ => .inl rfl) (me_live (mf_lst ma_nil)))
      (ms_cons (ms_for (fun _ => PassesOwn.never) c.toCxF (mi_seq c.toCxF (me_var (j := 1) (fun _ => rfl) fun _ => .inl rfl)) (mg_name (k := 3) c.nd (fun _ => rfl) fun _ => .inl rfl) (ms_cons (ms_expr (me_chg ch_insert PySem.F.slot_list_insert PySem.F.type_list_insert (me_var (j := 2) (fun _ => rfl) fun _ => .inl rfl) (ma_cons (me_fn (fun _ => F0) c (fun _ => rfl) (fun _ => g0) (fun _ => k0) (fun _ => b0) (fun _ => p0) (ma_cons (me_var (j := 0) (fun _ => rfl) fun _ => .inl rfl) (ma_cons (me_op (os_add c.toCxF) (me_callB (x := "len") (cs_len c.toCxF) (fun _ => rfl) (fun _ => z_len) (by decide +kernel) (ma_cons (me_var (j := 2) (fun _ => rfl) fun _ => .inl rfl) ma_nil)) me_int) ma_nil))) (ma_cons (me_var (j := 3) (fun _ => rfl) fun _ => .inl rfl) ma_nil)) (c := c.toCxF)))
      ms_nil))
      (ms_cons (ms_ret (me_var (j := 2) (fun _ => rfl) fun _ => .inl rfl))
      ms_nil)))
theorem sc_law_is_ahead : FnScope ["_law_calls", "_law_one_here", "_law_other"] ["_law_calls", "_law_one_here", "_law_other"] (defScope (topS 38)) := ⟨rfl, rfl, rfl, by decide +kernel, rfl, by decide +kernel, by decide +kernel⟩
theorem ok_law_is_ahead (N : Nat) (F : L2.Fun K "_law_is_ahead" "_law_is_ahead" (topS 38) f fd) (B : NoB mg)  : FnG P w K mg base CX0 1 f fd ["_law_calls", "_law_one_here", "_law_other"] (spOf K 3 (m_law_is_ahead N)) := by
  refine fn_M (mb := b_law_is_ahead N) F sc_law_is_ahead rfl rfl fun cdv E => ?_
  have c : CxG (bX P w K mg base 0 ["_law_calls", "_law_one_here", "_law_other"] "_law_is_ahead" (defScope (topS 38)) f cdv E) K 0 := bX_cx sc_law_is_ahead
  exact (ms_cons (ms_ret (me_and (me_notN (me_ix c.toCxF (me_ix c.toCxF (me_var (j := 0) (fun _ => rfl) fun _ => .inl rfl) (me_var (j := 1) (fun _ => rfl) fun _ => .inl rfl)) me_int)) (me_one (me_cmp os_lt (me_ix c.toCxF (me_ix c.toCxF (me_var (j := 0) (fun _ => rfl) fun _ => .inl rfl) (me_var (j := 1) (fun _ => rfl) fun _ => .inl rfl)) me_int) (me_ix c.toCxF (me_ix c.toCxF (me_var (j := 0) (fun _ => rfl) fun _ => .inl rfl) (me_var (j := 2) (fun _ => rfl) fun _ => .inl rfl)) me_int)))))
      ms_nil)
theorem sc_law_is_int : FnScope ["_law_thing"] ["_law_thing"] (defScope (topS 16)) := ⟨rfl, rfl, rfl, by decide +kernel, rfl, by decide +kernel, by decide +kernel⟩
theorem ok_law_is_int (N : Nat) (F : L2.Fun K "_law_is_int" "_law_is_int" (topS 16) f fd) (B : NoB mg)  : FnG P w K mg base CX0 1 f fd ["_law_thing"] (spOf K 1 (m_law_is_int N)) := by
  have z_bool := B.bool_
  have z_int := B.int_
  have z_isinstance := B.isinstance_
  refine fn_M (mb := b_law_is_int N) F sc_law_is_int rfl rfl fun cdv E => ?_
  have c : CxG (bX P w K mg base 0 ["_law_thing"] "_law_is_int" (defScope (topS 16)) f cdv E) K 0 := bX_cx sc_law_is_int
  exact (ms_cons (ms_ret (me_and (me_isi c.toCxF isi_int (fun _ => rfl) (fun _ => z_isinstance) (fun _ => rfl) (fun _ => z_int) (by decide +kernel) (me_var (j := 0) (fun _ => rfl) fun _ => .inl rfl)) (me_one (me_not (me_isi c.toCxF isi_bool (fun _ => rfl) (fun _ => z_isinstance) (fun _ => rfl) (fun _ => z_bool) (by decide +kernel) (me_var (j := 0) (fun _ => rfl) fun _ => .inl rfl))))))
      ms_nil)
theorem sc_law_is_order : FnScope ["_law_calls", "_law_thing", "_law_place", "_law_index", "_law_one_here", "_law_other"] ["_law_calls", "_law_thing"] (defScope (topS 39)) := ⟨rfl, rfl, rfl, by decide +kernel, rfl, by decide +kernel, by decide +kernel⟩
theorem ok_law_is_order (N : Nat) (F : L2.Fun K "_law_is_order" "_law_is_order" (topS 39) f fd) (B : NoB mg) (h0 : Has P w K mg base 1 "_law_is_ahead" ["_law_calls", "_law_one_here", "_law_other"] 3 (m_law_is_ahead N)) (h1 : Has P w K mg base 1 "_law_is_int" ["_law_thing"] 1 (m_law_is_int N)) : FnG P w K mg base CX0 2 f fd ["_law_calls", "_law_thing"] (spOf K 2 (m_law_is_order N)) := by
  have z_enumerate := B.enumerate_
  have z_isinstance := B.isinstance_
  have z_len := B.len_
  have z_list := B.list_
  have z_range := B.range_
  have z_sorted := B.sorted_
  have z_tuple := B.tuple_
  obtain ⟨f0, d0, g0, k0, b0, F0⟩ := h0
  have F0 := F0.up (k := 1) (by decide)
  obtain ⟨f1, d1, g1, k1, b1, F1⟩ := h1
  have F1 := F1.up (k := 1) (by decide)
  refine fn_M (mb := b_law_is_order N) F sc_law_is_order rfl rfl fun cdv E => ?_
  have c : CxG (bX P w K mg base 1 ["_law_calls", "_law_thing", "_law_place", "_law_index", "_law_one_here", "_law_other"] "_law_is_order" (defScope (topS 39)) f cdv E) K 1 := bX_cx sc_law_is_order
  exact (ms_cons (ms_if (mw_mt (mw_or (mt_not (mt_val (me_isi c.toCxF isi_tup (fun _ => rfl) (fun _ => z_isinstance) (fun _ => rfl) (fun _ => z_tuple) (by decide +kernel) (me_var (j := 1) (fun _ => rfl) fun _ => .inl rfl)))) (mw_or1 (mt_cmp (os_ne c.toCxF) (me_dead (mf_comp c.toCxF (mi_seq c.toCxF (me_var (j := 1) (fun _ => rfl) fun _ => .inl rfl)) (own := [("_law_one_here", 4)]) (fun _ => blkOk_by rfl) (mg_name (k := 4) c.blk.nd (fun _ => rfl) fun _ => .inl rfl) (mts_one (mt_not (mt_val (me_fn (fun _ => F1) c.blk (fun _ => rfl) (fun _ => g1) (fun _ => k1) (fun _ => b1) (fun _ => p0) (ma_cons (me_var (j := 4) (fun _ => rfl) fun _ => .inl rfl) ma_nil))))) me_int)) (me_dead (mf_lst ma_nil)))))) (ms_cons (ms_ret me_bl)
      ms_nil) ms_nil)
      (ms_cons (ms_if (mt_cmp (os_ne c.toCxF) (me_dead (mf_sortV c.toCxF (fun _ => rfl) (fun _ => z_sorted) (me_var (j := 1) (fun _ => rfl) fun _ => .inl rfl))) (me_dead (mf_range c.toCxF (fun _ => rfl) (fun _ => z_list) (fun _ => rfl) (fun _ => z_range) (me_callB (x := "len") (cs_len c.toCxF) (fun _ => rfl) (fun _ => z_len) (by decide +kernel) (ma_cons (me_var (j := 0) (fun _ => rfl) fun _ => .inr (.inl rfl)) ma_nil))))) (ms_cons (ms_ret me_bl)
      ms_nil) ms_nil)
      (ms_cons (ms_for (fun _ => PassesOwn.never) c.toCxF (mi_enum c.toCxF (fun _ => rfl) (fun _ => z_enumerate) (me_var (j := 1) (fun _ => rfl) fun _ => .inl rfl)) (mg_tup (n := 2) c.toCxF (mg_cons (mg_name (k := 2) c.nd (fun _ => rfl) fun _ => .inl rfl) (mg_cons (mg_name (k := 3) c.nd (fun _ => rfl) fun _ => .inr rfl) mg_nil))) (ms_cons (ms_if (mt_cmp (os_ne c.toCxF) (me_dead (mf_comp c.toCxF (mi_seq c.toCxF (me_alt (me_slT c.toCxF (me_var (j := 1) (fun _ => rfl) fun _ => .inl rfl) (mo_some (me_var (j := 2) (fun _ => rfl) fun _ => .inl rfl)) mo_none) (me_dead (mf_sl c.toCxF (me_var (j := 1) (fun _ => rfl) fun _ => .inl rfl) (mo_some (me_var (j := 2) (fun _ => rfl) fun _ => .inl rfl)) mo_none)))) (own := [("_law_other", 5)]) (fun _ => blkOk_by rfl) (mg_name (k := 5) c.blk.nd (fun _ => rfl) fun _ => .inl rfl) (mts_one (mt_val (me_fn (fun _ => F0) c.blk (fun _ => rfl) (fun _ => g0) (fun _ => k0) (fun _ => b0) (fun _ => p0) (ma_cons (me_var (j := 0) (fun _ => rfl) fun _ => .inr (.inl rfl)) (ma_cons (me_var (j := 5) (fun _ => rfl) fun _ => .inl rfl) (ma_cons (me_var (j := 3) (fun _ => rfl) fun _ => .inr (.inl rfl)) ma_nil)))))) me_int)) (me_dead (mf_lst ma_nil))) (ms_cons (ms_ret me_bl)
      ms_nil) ms_nil)
      ms_nil))
      (ms_cons (ms_ret me_bl)
      ms_nil))))
theorem sc_law_alike : FnScope ["_law_found", "_law_due"] ["_law_found", "_law_due"] (defScope (topS 15)) := ⟨rfl, rfl, rfl, by decide +kernel, rfl, by decide +kernel, by decide +kernel⟩
theorem ok_law_alike (N : Nat) (F : L2.Fun K "_law_alike" "_law_alike" (topS 15) f fd) (B : NoB mg)  : FnG P w K mg base CX0 1 f fd ["_law_found", "_law_due"] (spOf K 2 (m_law_alike N)) := by
  have z_repr := B.repr_
  refine fn_M (mb := b_law_alike N) F sc_law_alike rfl rfl fun cdv E => ?_
  have c : CxG (bX P w K mg base 0 ["_law_found", "_law_due"] "_law_alike" (defScope (topS 15)) f cdv E) K 0 := bX_cx sc_law_alike
  exact (ms_cons (ms_ret (me_and (me_cmp (os_eq c.toCxF) (me_var (j := 0) (fun _ => rfl) fun _ => .inl rfl) (me_var (j := 1) (fun _ => rfl) fun _ => .inl rfl)) (me_one (me_cmp (os_eq c.toCxF) (me_callB (x := "repr") (cs_repr c) (fun _ => rfl) (fun _ => z_repr) (by decide +kernel) (ma_cons (me_var (j := 0) (fun _ => rfl) fun _ => .inl rfl) ma_nil)) (me_callB (x := "repr") (cs_repr c) (fun _ => rfl) (fun _ => z_repr) (by decide +kernel) (ma_cons (me_var (j := 1) (fun _ => rfl) fun _ => .inl rfl) ma_nil))))))
      ms_nil)
theorem sc_by_begins : FnScope ["what", "lot"] ["what", "lot"] (defScope (topS 6)) := ⟨rfl, rfl, rfl, by decide +kernel, rfl, by decide +kernel, by decide +kernel⟩
theorem ok_by_begins (N : Nat) (F : L2.Fun K "by_begins" "by_begins" (topS 6) f fd) (B : NoB mg)  {c Pt : Addr} (hc : ∀ cdv, Cdv K f cdv → cdv = .ref c) (tb : LamX.TabB base mg c Pt) (inT : (Pt, "by_begins" ++ ".<locals>." ++ lamN) ∈ Tbl.T) (one : ∀ p ∈ Tbl.T, p.1 = Pt → p.2 = "by_begins" ++ ".<locals>." ++ lamN) : FnG P w K mg base CX0 4 f fd ["what", "lot"] (spOf K 2 (m_by_begins N)) := by
  have z_sorted := B.sorted_
  have z_tuple := B.tuple_
  refine fn_MC (mb := b_by_begins N) F sc_by_begins rfl rfl fun cdv E hcv => ?_
  have c : CxG (bX P w K mg base 3 ["what", "lot"] "by_begins" (defScope (topS 6)) f cdv E) K 3 := bX_cx sc_by_begins
  exact (ms_cons (ms_ret (me_tupleF c.toCxF (fun _ => rfl) (fun _ => z_tuple) (mf_sortby (wv := "what") (lp := "index") (wi := 0) c.toCxF (fun _ => rfl) z_sorted (hc cdv hcv) tb inT one (fun _ => rfl) (NdefX.ndef_free (fr := ["what"]) (by decide +kernel)) (NdefX.ndef_fr (sc := defScope (topS 6)) (by decide +kernel)) rfl (NdefX.nscope_by (by decide +kernel)) (fun _ _ _ _ _ => rfl) (.inr (.inr rfl)) (.inl rfl) (by decide) (by decide) (by decide) (by decide) (me_var (j := 1) (fun _ => rfl) fun _ => .inl rfl))))
      ms_nil)
theorem sc_split_order : FnScope ["what", "index", "ahead", "behind", "other"] ["what", "index", "ahead"] (defScope (topS 7)) := ⟨rfl, rfl, rfl, by decide +kernel, rfl, by decide +kernel, by decide +kernel⟩
theorem ok_split_order (N : Nat) (F : L2.Fun K "split_order" "split_order" (topS 7) f fd) (B : NoB mg) (h0 : Has P w K mg base 4 "by_begins" ["what", "lot"] 2 (m_by_begins N)) : FnG P w K mg base CX0 5 f fd ["what", "index", "ahead"] (spOf K 3 (m_split_order N)) := by
  have z_len := B.len_
  have z_range := B.range_
  obtain ⟨f0, d0, g0, k0, b0, F0⟩ := h0
  have F0 := F0.up (k := 4) (by decide)
  refine fn_M (mb := b_split_order N) F sc_split_order rfl rfl fun cdv E => ?_
  have c : CxG (bX P w K mg base 4 ["what", "index", "ahead", "behind", "other"] "split_order" (defScope (topS 7)) f cdv E) K 4 := bX_cx sc_split_order
  exact (ms_cons (ms_setLcD (i := 3) c.toCxF (fun _ => rfl) (fun _ => rfl) (fun _ => rfl) (mi_range1 (fun _ => rfl) (fun _ => z_range) (me_callB (x := "len") (cs_len c.toCxF) (fun _ => rfl) (fun _ => z_len) (by decide +kernel) (ma_cons (me_ix c.toCxF (me_var (j := 0) (fun _ => rfl) fun _ => .inl rfl) me_int) ma_nil))) (own := [("other", 4)]) (fun _ => blkOk_by rfl) (mg_name (k := 4) c.blk.nd (fun _ => rfl) fun _ => .inl rfl) (mts_one (mw_mt (mw_and (mt_cmp (os_ne c.blk.toCxF) (me_var (j := 4) (fun _ => rfl) fun _ => .inl rfl) (me_var (j := 1) (fun _ => rfl) fun _ => .inr (.inl rfl))) (mw_and1 (mt_cmp (os_notIn c.blk.toCxF) (me_var (j := 4) (fun _ => rfl) fun _ => .inl rfl) (me_var (j := 2) (fun _ => rfl) fun _ => .inr (.inl rfl))))))) (me_var (j := 4) (fun _ => rfl) fun _ => .inl rfl))
      (ms_cons (ms_ret (me_tupS (mb_star c.toCxF (me_fn (fun _ => F0) c (fun _ => rfl) (fun _ => g0) (fun _ => k0) (fun _ => b0) (fun _ => p0) (ma_cons (me_var (j := 0) (fun _ => rfl) fun _ => .inl rfl) (ma_cons (me_var (j := 2) (fun _ => rfl) fun _ => .inr (.inl rfl)) ma_nil))) (mb_cons (me_var (j := 1) (fun _ => rfl) fun _ => .inr (.inl rfl)) (mb_star c.toCxF (me_fn (fun _ => F0) c (fun _ => rfl) (fun _ => g0) (fun _ => k0) (fun _ => b0) (fun _ => p0) (ma_cons (me_var (j := 0) (fun _ => rfl) fun _ => .inl rfl) (ma_cons (me_var (j := 3) (fun _ => rfl) fun _ => .inl rfl) ma_nil))) mb_nil)))))
      ms_nil))
theorem sc_is_ahead : FnScope ["what", "one", "other", "end"] ["what", "one", "other"] (defScope (topS 1)) := ⟨rfl, rfl, rfl, by decide +kernel, rfl, by decide +kernel, by decide +kernel⟩
theorem ok_is_ahead (N : Nat) (F : L2.Fun K "is_ahead" "is_ahead" (topS 1) f fd) (B : NoB mg)  : FnG P w K mg base CX0 1 f fd ["what", "one", "other"] (spOf K 3 (m_is_ahead N)) := by
  refine fn_M (mb := b_is_ahead N) F sc_is_ahead rfl rfl fun cdv E => ?_
  have c : CxG (bX P w K mg base 0 ["what", "one", "other", "end"] "is_ahead" (defScope (topS 1)) f cdv E) K 0 := bX_cx sc_is_ahead
  exact (ms_cons (ms_set (k := 3) c.nd (fun _ => rfl) (fun _ => .inl rfl) (me_ix c.toCxF (me_ix c.toCxF (me_ix c.toCxF (me_var (j := 0) (fun _ => rfl) fun _ => .inl rfl) me_int) (me_var (j := 1) (fun _ => rfl) fun _ => .inl rfl)) me_int))
      (ms_cons (ms_ret (me_and (me_notN (me_var (j := 3) (fun _ => rfl) fun _ => .inl rfl)) (me_one (me_cmp os_lt (me_var (j := 3) (fun _ => rfl) fun _ => .inl rfl) (me_ix c.toCxF (me_ix c.toCxF (me_ix c.toCxF (me_var (j := 0) (fun _ => rfl) fun _ => .inl rfl) me_int) (me_var (j := 2) (fun _ => rfl) fun _ => .inl rfl)) me_int)))))
      ms_nil))
theorem sc_behind_of : FnScope ["what", "index"] ["what", "index"] (defScope (topS 4)) := ⟨rfl, rfl, rfl, by decide +kernel, rfl, by decide +kernel, by decide +kernel⟩
theorem ok_behind_of (N : Nat) (F : L2.Fun K "behind_of" "behind_of" (topS 4) f fd) (B : NoB mg) (h0 : Has P w K mg base 1 "is_ahead" ["what", "one", "other"] 3 (m_is_ahead N)) (hlot : HasLot K mg "lot_of" "what" "is_wanted" (topS 2)) {c Pt : Addr} (hc : ∀ cdv, Cdv K f cdv → cdv = .ref c) (tb : LamX.TabB base mg c Pt) (inT : (Pt, "behind_of" ++ ".<locals>." ++ lamN) ∈ Tbl.T) (one : ∀ p ∈ Tbl.T, p.1 = Pt → p.2 = "behind_of" ++ ".<locals>." ++ lamN) : FnG P w K mg base CX0 4 f fd ["what", "index"] (spOf K 2 (m_behind_of N)) := by
  have z_len := B.len_
  have z_range := B.range_
  have z_tuple := B.tuple_
  obtain ⟨f0, d0, g0, k0, b0, F0⟩ := h0
  have L0 := F0.up (k := 1) (by decide)
  have F0 := F0.up (k := 3) (by decide)
  obtain ⟨gl, _, _, _, _, _, _, _, _, _, lk, hcd, hmg, hkp, hbd⟩ := hlot
  refine fn_MC (mb := b_behind_of N) F sc_behind_of rfl rfl fun cdv E hcv => ?_
  have c : CxG (bX P w K mg base 3 ["what", "index"] "behind_of" (defScope (topS 4)) f cdv E) K 3 := bX_cx sc_behind_of
  exact (ms_cons (ms_ret (me_lot (wv := "what") (pv := "is_wanted") (iv := "index") (Nl := ["other", "what", "index"]) (fr := ["what", "index"]) (lp := "other") (js := [0, 1]) (nl := 0) lk hcd (fun _ => rfl) hmg hkp hbd sc_lot_of rfl (fun c2 => (mi_range1 (fun _ => rfl) (fun _ => z_range) (me_callB (x := "len") (cs_len c2.toCxF) (fun _ => rfl) (fun _ => z_len) (by decide +kernel) (ma_cons (me_ix c2.toCxF (me_var (j := 0) (fun _ => rfl) fun _ => .inl rfl) me_int) ma_nil)))) (fun _ => blkOk_by rfl) (fun c2 => (mg_name (k := 2) c2.blk.nd (fun _ => rfl) fun _ => .inl rfl)) (fun c2 => (me_var (j := 2) (fun _ => rfl) fun _ => .inl rfl)) (fun _ => .inr (.inl rfl)) (fun _ => .inl rfl) (fun _ _ => rfl) (fun _ => rfl) z_tuple (by decide) (by decide) (by decide) (by decide) (hc cdv hcv) tb inT one (fun _ => rfl) (NdefX.ndef_free (fr := ["what", "index"]) (by decide +kernel)) (NdefX.ndef_fr (sc := defScope (topS 4)) (by decide +kernel)) rfl (NdefX.nscope_by (by decide +kernel)) rfl (fun _ _ _ _ _ => rfl) (fun cl => (me_fn (fun _ => L0) cl (fun _ => rfl) (fun _ => g0) (fun _ => k0) (fun _ => b0) (fun _ => p0) (ma_cons (me_var (j := 1) (fun _ => rfl) fun _ => .inr (.inr rfl)) (ma_cons (me_var (j := 2) (fun _ => rfl) fun _ => .inr (.inr rfl)) (ma_cons (me_var (j := 0) (fun _ => rfl) fun _ => .inl rfl) ma_nil))))) (me_var (j := 0) (fun _ => rfl) fun _ => .inr (.inl rfl)) (fun _ => rfl) (by decide)))
      ms_nil)
theorem sc_late_order : FnScope ["what", "index", "behind", "other"] ["what", "index"] (defScope (topS 9)) := ⟨rfl, rfl, rfl, by decide +kernel, rfl, by decide +kernel, by decide +kernel⟩
theorem ok_late_order (N : Nat) (F : L2.Fun K "late_order" "late_order" (topS 9) f fd) (B : NoB mg) (h0 : Has P w K mg base 5 "split_order" ["what", "index", "ahead"] 3 (m_split_order N)) (h1 : Has P w K mg base 4 "behind_of" ["what", "index"] 2 (m_behind_of N)) : FnG P w K mg base CX0 6 f fd ["what", "index"] (spOf K 2 (m_late_order N)) := by
  have z_len := B.len_
  have z_range := B.range_
  obtain ⟨f0, d0, g0, k0, b0, F0⟩ := h0
  have F0 := F0.up (k := 5) (by decide)
  obtain ⟨f1, d1, g1, k1, b1, F1⟩ := h1
  have F1 := F1.up (k := 5) (by decide)
  refine fn_M (mb := b_late_order N) F sc_late_order rfl rfl fun cdv E => ?_
  have c : CxG (bX P w K mg base 5 ["what", "index", "behind", "other"] "late_order" (defScope (topS 9)) f cdv E) K 5 := bX_cx sc_late_order
  exact (ms_cons (ms_set (k := 2) c.nd (fun _ => rfl) (fun _ => .inr rfl) (me_tupS (mb_cons (me_var (j := 1) (fun _ => rfl) fun _ => .inl rfl) (mb_star c.toCxF (me_fn (fun _ => F1) c (fun _ => rfl) (fun _ => g1) (fun _ => k1) (fun _ => b1) (fun _ => p0) (ma_cons (me_var (j := 0) (fun _ => rfl) fun _ => .inl rfl) (ma_cons (me_var (j := 1) (fun _ => rfl) fun _ => .inl rfl) ma_nil))) mb_nil))))
      (ms_cons (ms_ret (me_fnL (fun _ => F0) c (fun _ => rfl) (fun _ => g0) (fun _ => k0) (fun _ => b0) (fun _ => p0) (ma_cons (me_var (j := 0) (fun _ => rfl) fun _ => .inl rfl) (ma_cons (me_var (j := 1) (fun _ => rfl) fun _ => .inl rfl) (ma_cons (me_dead (mf_comp c.toCxF (mi_range1 (fun _ => rfl) (fun _ => z_range) (me_callB (x := "len") (cs_len c.toCxF) (fun _ => rfl) (fun _ => z_len) (by decide +kernel) (ma_cons (me_ix c.toCxF (me_var (j := 0) (fun _ => rfl) fun _ => .inl rfl) me_int) ma_nil))) (own := [("other", 3)]) (fun _ => blkOk_by rfl) (mg_name (k := 3) c.blk.nd (fun _ => rfl) fun _ => .inl rfl) (mts_one (mt_cmp (os_notIn c.blk.toCxF) (me_var (j := 3) (fun _ => rfl) fun _ => .inl rfl) (me_var (j := 2) (fun _ => rfl) fun _ => .inr (.inl rfl)))) (me_var (j := 3) (fun _ => rfl) fun _ => .inl rfl))) ma_nil)))))
      ms_nil))
theorem sc_ahead_of : FnScope ["what", "index"] ["what", "index"] (defScope (topS 3)) := ⟨rfl, rfl, rfl, by decide +kernel, rfl, by decide +kernel, by decide +kernel⟩
theorem ok_ahead_of (N : Nat) (F : L2.Fun K "ahead_of" "ahead_of" (topS 3) f fd) (B : NoB mg) (h0 : Has P w K mg base 1 "is_ahead" ["what", "one", "other"] 3 (m_is_ahead N)) (hlot : HasLot K mg "lot_of" "what" "is_wanted" (topS 2)) {c Pt : Addr} (hc : ∀ cdv, Cdv K f cdv → cdv = .ref c) (tb : LamX.TabB base mg c Pt) (inT : (Pt, "ahead_of" ++ ".<locals>." ++ lamN) ∈ Tbl.T) (one : ∀ p ∈ Tbl.T, p.1 = Pt → p.2 = "ahead_of" ++ ".<locals>." ++ lamN) : FnG P w K mg base CX0 4 f fd ["what", "index"] (spOf K 2 (m_ahead_of N)) := by
  have z_len := B.len_
  have z_range := B.range_
  have z_tuple := B.tuple_
  obtain ⟨f0, d0, g0, k0, b0, F0⟩ := h0
  have L0 := F0.up (k := 1) (by decide)
  have F0 := F0.up (k := 3) (by decide)
  obtain ⟨gl, _, _, _, _, _, _, _, _, _, lk, hcd, hmg, hkp, hbd⟩ := hlot
  refine fn_MC (mb := b_ahead_of N) F sc_ahead_of rfl rfl fun cdv E hcv => ?_
  have c : CxG (bX P w K mg base 3 ["what", "index"] "ahead_of" (defScope (topS 3)) f cdv E) K 3 := bX_cx sc_ahead_of
  exact (ms_cons (ms_ret (me_lot (wv := "what") (pv := "is_wanted") (iv := "index") (Nl := ["other", "what", "index"]) (fr := ["what", "index"]) (lp := "other") (js := [0, 1]) (nl := 0) lk hcd (fun _ => rfl) hmg hkp hbd sc_lot_of rfl (fun c2 => (mi_range1 (fun _ => rfl) (fun _ => z_range) (me_callB (x := "len") (cs_len c2.toCxF) (fun _ => rfl) (fun _ => z_len) (by decide +kernel) (ma_cons (me_ix c2.toCxF (me_var (j := 0) (fun _ => rfl) fun _ => .inl rfl) me_int) ma_nil)))) (fun _ => blkOk_by rfl) (fun c2 => (mg_name (k := 2) c2.blk.nd (fun _ => rfl) fun _ => .inl rfl)) (fun c2 => (me_var (j := 2) (fun _ => rfl) fun _ => .inl rfl)) (fun _ => .inr (.inl rfl)) (fun _ => .inl rfl) (fun _ _ => rfl) (fun _ => rfl) z_tuple (by decide) (by decide) (by decide) (by decide) (hc cdv hcv) tb inT one (fun _ => rfl) (NdefX.ndef_free (fr := ["what", "index"]) (by decide +kernel)) (NdefX.ndef_fr (sc := defScope (topS 3)) (by decide +kernel)) rfl (NdefX.nscope_by (by decide +kernel)) rfl (fun _ _ _ _ _ => rfl) (fun cl => (me_fn (fun _ => L0) cl (fun _ => rfl) (fun _ => g0) (fun _ => k0) (fun _ => b0) (fun _ => p0) (ma_cons (me_var (j := 1) (fun _ => rfl) fun _ => .inr (.inr rfl)) (ma_cons (me_var (j := 0) (fun _ => rfl) fun _ => .inl rfl) (ma_cons (me_var (j := 2) (fun _ => rfl) fun _ => .inr (.inr rfl)) ma_nil))))) (me_var (j := 0) (fun _ => rfl) fun _ => .inr (.inl rfl)) (fun _ => rfl) (by decide)))
      ms_nil)
theorem sc_early_order : FnScope ["what", "index"] ["what", "index"] (defScope (topS 8)) := ⟨rfl, rfl, rfl, by decide +kernel, rfl, by decide +kernel, by decide +kernel⟩
theorem ok_early_order (N : Nat) (F : L2.Fun K "early_order" "early_order" (topS 8) f fd) (B : NoB mg) (h0 : Has P w K mg base 4 "ahead_of" ["what", "index"] 2 (m_ahead_of N)) (h1 : Has P w K mg base 5 "split_order" ["what", "index", "ahead"] 3 (m_split_order N)) : FnG P w K mg base CX0 6 f fd ["what", "index"] (spOf K 2 (m_early_order N)) := by
  obtain ⟨f0, d0, g0, k0, b0, F0⟩ := h0
  have F0 := F0.up (k := 5) (by decide)
  obtain ⟨f1, d1, g1, k1, b1, F1⟩ := h1
  have F1 := F1.up (k := 5) (by decide)
  refine fn_M (mb := b_early_order N) F sc_early_order rfl rfl fun cdv E => ?_
  have c : CxG (bX P w K mg base 5 ["what", "index"] "early_order" (defScope (topS 8)) f cdv E) K 5 := bX_cx sc_early_order
  exact (ms_cons (ms_ret (me_fnL (fun _ => F1) c (fun _ => rfl) (fun _ => g1) (fun _ => k1) (fun _ => b1) (fun _ => p0) (ma_cons (me_var (j := 0) (fun _ => rfl) fun _ => .inl rfl) (ma_cons (me_var (j := 1) (fun _ => rfl) fun _ => .inl rfl) (ma_cons (me_fn (fun _ => F0) c (fun _ => rfl) (fun _ => g0) (fun _ => k0) (fun _ => b0) (fun _ => p0) (ma_cons (me_var (j := 0) (fun _ => rfl) fun _ => .inl rfl) (ma_cons (me_var (j := 1) (fun _ => rfl) fun _ => .inl rfl) ma_nil))) ma_nil)))))
      ms_nil)
theorem sc_law_by_begins : FnScope ["_law_calls", "_law_lot", "_law_begin", "_law_index"] ["_law_calls", "_law_lot"] (defScope (topS 41)) := ⟨rfl, rfl, rfl, by decide +kernel, rfl, by decide +kernel, by decide +kernel⟩
theorem ok_law_by_begins (N : Nat) (F : L2.Fun K "_law_by_begins" "_law_by_begins" (topS 41) f fd) (B : NoB mg)  : FnG P w K mg base CX0 1 f fd ["_law_calls", "_law_lot"] (spOf K 2 (m_law_by_begins N)) := by
  have z_sorted := B.sorted_
  have z_tuple := B.tuple_
  refine fn_M (mb := b_law_by_begins N) F sc_law_by_begins rfl rfl fun cdv E => ?_
  have c : CxG (bX P w K mg base 0 ["_law_calls", "_law_lot", "_law_begin", "_law_index"] "_law_by_begins" (defScope (topS 41)) f cdv E) K 0 := bX_cx sc_law_by_begins
  exact (ms_cons (ms_ret (me_tupleF c.toCxF (fun _ => rfl) (fun _ => z_tuple) (mf_comp c.toCxF (mi_seq c.toCxF (me_dead (mf_sortV c.toCxF (fun _ => rfl) (fun _ => z_sorted) (me_dead (mf_comp c.toCxF (mi_seq c.toCxF (me_var (j := 1) (fun _ => rfl) fun _ => .inl rfl)) (own := [("_law_index", 3)]) (fun _ => blkOk_by rfl) (mg_name (k := 3) c.blk.nd (fun _ => rfl) fun _ => .inl rfl) mts_nil (me_tup (ma_cons (me_ix c.blk.toCxF (me_ix c.blk.toCxF (me_var (j := 0) (fun _ => rfl) fun _ => .inr (.inl rfl)) (me_var (j := 3) (fun _ => rfl) fun _ => .inl rfl)) me_int) (ma_cons (me_var (j := 3) (fun _ => rfl) fun _ => .inl rfl) ma_nil)))))))) (own := [("_law_begin", 2), ("_law_index", 3)]) (fun _ => blkOk_by rfl) (mg_tup (n := 2) c.blk.toCxF (mg_cons (mg_name (k := 2) c.blk.nd (fun _ => rfl) fun _ => .inl rfl) (mg_cons (mg_name (k := 3) c.blk.nd (fun _ => rfl) fun _ => .inl rfl) mg_nil))) mts_nil (me_var (j := 3) (fun _ => rfl) fun _ => .inl rfl))))
      ms_nil)
theorem sc_law_stretch : FnScope ["_law_bag_here", "_law_moment", "_law_way", "_law_short", "_law_long"] ["_law_bag_here", "_law_moment", "_law_way"] (defScope (topS 31)) := ⟨rfl, rfl, rfl, by decide +kernel, rfl, by decide +kernel, by decide +kernel⟩
theorem ok_law_stretch (N : Nat) (F : L2.Fun K "_law_stretch" "_law_stretch" (topS 31) f fd) (B : NoB mg) (h0 : Has P w K mg base 2 "_law_one" ["_law_bag_here", "_law_things"] 2 (m_law_one N)) : FnG P w K mg base CX0 3 f fd ["_law_bag_here", "_law_moment", "_law_way"] (spOf K 3 (m_law_stretch N)) := by
  obtain ⟨f0, d0, g0, k0, b0, F0⟩ := h0
  have F0 := F0.up (k := 2) (by decide)
  refine fn_M (mb := b_law_stretch N) F sc_law_stretch rfl rfl fun cdv E => ?_
  have c : CxG (bX P w K mg base 2 ["_law_bag_here", "_law_moment", "_law_way", "_law_short", "_law_long"] "_law_stretch" (defScope (topS 31)) f cdv E) K 2 := bX_cx sc_law_stretch
  exact (ms_cons (ms_set (k := 3) c.nd (fun _ => rfl) (fun _ => .inl rfl) (me_fn (fun _ => F0) c (fun _ => rfl) (fun _ => g0) (fun _ => k0) (fun _ => b0) (fun _ => p0) (ma_cons (me_var (j := 0) (fun _ => rfl) fun _ => .inl rfl) (ma_cons (me_dead (mf_lst (ma_cons me_int (ma_cons me_int (ma_cons me_int (ma_cons me_int ma_nil)))))) ma_nil))))
      (ms_cons (ms_if (mt_cmp (os_eq c.toCxF) (me_var (j := 2) (fun _ => rfl) fun _ => .inl rfl) me_int) (ms_cons (ms_ret (me_tup (ma_cons (me_op os_sub (me_var (j := 1) (fun _ => rfl) fun _ => .inl rfl) (me_var (j := 3) (fun _ => rfl) fun _ => .inl rfl)) (ma_cons (me_op (os_add c.toCxF) (me_var (j := 1) (fun _ => rfl) fun _ => .inl rfl) (me_fn (fun _ => F0) c (fun _ => rfl) (fun _ => g0) (fun _ => k0) (fun _ => b0) (fun _ => p0) (ma_cons (me_var (j := 0) (fun _ => rfl) fun _ => .inl rfl) (ma_cons (me_dead (mf_lst (ma_cons me_int (ma_cons me_int (ma_cons me_int (ma_cons me_int ma_nil)))))) ma_nil)))) ma_nil))))
      ms_nil) ms_nil)
      (ms_cons (ms_if (mt_cmp (os_eq c.toCxF) (me_var (j := 2) (fun _ => rfl) fun _ => .inl rfl) me_int) (ms_cons (ms_ret (me_tup (ma_cons (me_op os_sub (me_var (j := 1) (fun _ => rfl) fun _ => .inl rfl) me_int) (ma_cons (me_op (os_add c.toCxF) (me_var (j := 1) (fun _ => rfl) fun _ => .inl rfl) (me_fn (fun _ => F0) c (fun _ => rfl) (fun _ => g0) (fun _ => k0) (fun _ => b0) (fun _ => p0) (ma_cons (me_var (j := 0) (fun _ => rfl) fun _ => .inl rfl) (ma_cons (me_dead (mf_lst (ma_cons me_int (ma_cons me_int (ma_cons me_int ma_nil))))) ma_nil)))) ma_nil))))
      ms_nil) ms_nil)
      (ms_cons (ms_set (k := 4) c.nd (fun _ => rfl) (fun _ => .inl rfl) (me_fn (fun _ => F0) c (fun _ => rfl) (fun _ => g0) (fun _ => k0) (fun _ => b0) (fun _ => p0) (ma_cons (me_var (j := 0) (fun _ => rfl) fun _ => .inl rfl) (ma_cons (me_dead (mf_lst (ma_cons me_int (ma_cons me_int (ma_cons me_int (ma_cons me_int (ma_cons me_int (ma_cons me_int ma_nil)))))))) ma_nil))))
      (ms_cons (ms_if (mt_cmp (os_eq c.toCxF) (me_var (j := 2) (fun _ => rfl) fun _ => .inl rfl) me_int) (ms_cons (ms_ret (me_tup (ma_cons (me_op os_sub (me_var (j := 1) (fun _ => rfl) fun _ => .inl rfl) (me_var (j := 4) (fun _ => rfl) fun _ => .inl rfl)) (ma_cons (me_op (os_add c.toCxF) (me_var (j := 1) (fun _ => rfl) fun _ => .inl rfl) (me_fn (fun _ => F0) c (fun _ => rfl) (fun _ => g0) (fun _ => k0) (fun _ => b0) (fun _ => p0) (ma_cons (me_var (j := 0) (fun _ => rfl) fun _ => .inl rfl) (ma_cons (me_dead (mf_lst (ma_cons me_int (ma_cons me_int (ma_cons me_int (ma_cons me_int (ma_cons me_int ma_nil))))))) ma_nil)))) ma_nil))))
      ms_nil) ms_nil)
      (ms_cons (ms_ret (me_tup (ma_cons (me_op os_sub (me_var (j := 1) (fun _ => rfl) fun _ => .inl rfl) (me_fn (fun _ => F0) c (fun _ => rfl) (fun _ => g0) (fun _ => k0) (fun _ => b0) (fun _ => p0) (ma_cons (me_var (j := 0) (fun _ => rfl) fun _ => .inl rfl) (ma_cons (me_dead (mf_lst (ma_cons (me_var (j := 3) (fun _ => rfl) fun _ => .inl rfl) (ma_cons (me_var (j := 4) (fun _ => rfl) fun _ => .inl rfl) ma_nil)))) ma_nil)))) (ma_cons (me_fn (fun _ => F0) c (fun _ => rfl) (fun _ => g0) (fun _ => k0) (fun _ => b0) (fun _ => p0) (ma_cons (me_var (j := 0) (fun _ => rfl) fun _ => .inl rfl) (ma_cons (me_dead (mf_lst (ma_cons (me_op (os_add c.toCxF) (me_var (j := 1) (fun _ => rfl) fun _ => .inl rfl) (me_var (j := 4) (fun _ => rfl) fun _ => .inl rfl)) (ma_cons (me_op (os_add c.toCxF) (me_var (j := 1) (fun _ => rfl) fun _ => .inl rfl) (me_var (j := 3) (fun _ => rfl) fun _ => .inl rfl)) (ma_cons (me_op (os_add c.toCxF) (me_var (j := 1) (fun _ => rfl) fun _ => .inl rfl) me_int) (ma_cons me_non ma_nil)))))) ma_nil))) ma_nil))))
      ms_nil))))))
theorem sc_law_rest : FnScope ["_law_number", "_law_prime"] ["_law_number", "_law_prime"] (defScope (topS 17)) := ⟨rfl, rfl, rfl, by decide +kernel, rfl, by decide +kernel, by decide +kernel⟩
theorem ok_law_rest (N : Nat) (F : L2.Fun K "_law_rest" "_law_rest" (topS 17) f fd) (B : NoB mg)  : FnG P w K mg base CX0 1 f fd ["_law_number", "_law_prime"] (spOf K 2 (m_law_rest N)) := by
  refine fn_M (mb := b_law_rest N) F sc_law_rest rfl rfl fun cdv E => ?_
  have c : CxG (bX P w K mg base 0 ["_law_number", "_law_prime"] "_law_rest" (defScope (topS 17)) f cdv E) K 0 := bX_cx sc_law_rest
  exact (ms_cons (ms_ret (me_op os_sub (me_var (j := 0) (fun _ => rfl) fun _ => .inl rfl) (me_op os_mul (me_op os_div (me_var (j := 0) (fun _ => rfl) fun _ => .inl rfl) (me_var (j := 1) (fun _ => rfl) fun _ => .inl rfl)) (me_var (j := 1) (fun _ => rfl) fun _ => .inl rfl))))
      ms_nil)
theorem sc_law_comes_to : FnScope ["_law_house_here", "_law_world_here", "_law_sums_here", "_law_factor", "_law_number"] ["_law_house_here", "_law_world_here", "_law_sums_here"] (defScope (topS 23)) := ⟨rfl, rfl, rfl, by decide +kernel, rfl, by decide +kernel, by decide +kernel⟩
theorem ok_law_comes_to (N : Nat) (F : L2.Fun K "_law_comes_to" "_law_comes_to" (topS 23) f fd) (B : NoB mg) (h0 : Has P w K mg base 1 "_law_rest" ["_law_number", "_law_prime"] 2 (m_law_rest N)) : FnG P w K mg base CX0 2 f fd ["_law_house_here", "_law_world_here", "_law_sums_here"] (spOf K 3 (m_law_comes_to N)) := by
  have z_sum := B.sum_
  have z_zip := B.zip_
  obtain ⟨f0, d0, g0, k0, b0, F0⟩ := h0
  have F0 := F0.up (k := 1) (by decide)
  refine fn_M (mb := b_law_comes_to N) F sc_law_comes_to rfl rfl fun cdv E => ?_
  have c : CxG (bX P w K mg base 1 ["_law_house_here", "_law_world_here", "_law_sums_here", "_law_factor", "_law_number"] "_law_comes_to" (defScope (topS 23)) f cdv E) K 1 := bX_cx sc_law_comes_to
  exact (ms_cons (ms_ret (me_fnL (fun _ => F0) c (fun _ => rfl) (fun _ => g0) (fun _ => k0) (fun _ => b0) (fun _ => p0) (ma_cons (me_callB (x := "sum") (cs_sum c.toCxF) (fun _ => rfl) (fun _ => z_sum) (by decide +kernel) (ma_cons (me_dead (mf_comp c.toCxF (mi_zip c.toCxF (fun _ => rfl) (fun _ => z_zip) (me_var (j := 2) (fun _ => rfl) fun _ => .inl rfl) (me_var (j := 1) (fun _ => rfl) fun _ => .inl rfl)) (own := [("_law_factor", 3), ("_law_number", 4)]) (fun _ => blkOk_by rfl) (mg_tup (n := 2) c.blk.toCxF (mg_cons (mg_name (k := 3) c.blk.nd (fun _ => rfl) fun _ => .inl rfl) (mg_cons (mg_name (k := 4) c.blk.nd (fun _ => rfl) fun _ => .inl rfl) mg_nil))) mts_nil (me_op os_mul (me_var (j := 3) (fun _ => rfl) fun _ => .inl rfl) (me_var (j := 4) (fun _ => rfl) fun _ => .inl rfl)))) ma_nil)) (ma_cons (me_ix c.toCxF (me_var (j := 0) (fun _ => rfl) fun _ => .inl rfl) me_int) ma_nil))))
      ms_nil)
theorem sc_law_sum : FnScope ["_law_bag_here", "_law_house_here", "_law_items", "_law_turn"] ["_law_bag_here", "_law_house_here"] (defScope (topS 27)) := ⟨rfl, rfl, rfl, by decide +kernel, rfl, by decide +kernel, by decide +kernel⟩
theorem ok_law_sum (N : Nat) (F : L2.Fun K "_law_sum" "_law_sum" (topS 27) f fd) (B : NoB mg) (h0 : Has P w K mg base 2 "_law_one" ["_law_bag_here", "_law_things"] 2 (m_law_one N)) (h1 : Has P w K mg base 1 "_law_take" ["_law_bag_here", "_law_many"] 2 (m_law_take N)) : FnG P w K mg base CX0 3 f fd ["_law_bag_here", "_law_house_here"] (spOf K 2 (m_law_sum N)) := by
  have z_range := B.range_
  have z_tuple := B.tuple_
  obtain ⟨f0, d0, g0, k0, b0, F0⟩ := h0
  have F0 := F0.up (k := 2) (by decide)
  obtain ⟨f1, d1, g1, k1, b1, F1⟩ := h1
  have F1 := F1.up (k := 2) (by decide)
  refine fn_M (mb := b_law_sum N) F sc_law_sum rfl rfl fun cdv E => ?_
  have c : CxG (bX P w K mg base 2 ["_law_bag_here", "_law_house_here", "_law_items", "_law_turn"] "_law_sum" (defScope (topS 27)) f cdv E) K 2 := bX_cx sc_law_sum
  exact (ms_cons (ms_set (k := 2) c.nd (fun _ => rfl) (fun _ => .inl rfl) (me_live (mf_mul (me_dead (mf_lst (ma_cons me_int ma_nil))) (me_ix c.toCxF (me_var (j := 1) (fun _ => rfl) fun _ => .inl rfl) me_int))))
      (ms_cons (ms_for (fun _ => PassesOwn.never) c.toCxF (mi_range1 (fun _ => rfl) (fun _ => z_range) (me_fn (fun _ => F0) c (fun _ => rfl) (fun _ => g0) (fun _ => k0) (fun _ => b0) (fun _ => p0) (ma_cons (me_var (j := 0) (fun _ => rfl) fun _ => .inl rfl) (ma_cons (me_dead (mf_lst (ma_cons me_int (ma_cons me_int (ma_cons me_int (ma_cons me_int (ma_cons me_int (ma_cons me_int (ma_cons me_int ma_nil))))))))) ma_nil)))) (mg_name (k := 3) c.nd (fun _ => rfl) fun _ => .inl rfl) (ms_cons (ms_if (mt_cmp os_gt (me_ix c.toCxF (me_var (j := 1) (fun _ => rfl) fun _ => .inl rfl) me_int) me_int) (ms_cons (ms_sub (me_op (os_add c.toCxF) me_int (me_fn (fun _ => F1) c (fun _ => rfl) (fun _ => g1) (fun _ => k1) (fun _ => b1) (fun _ => p0) (ma_cons (me_var (j := 0) (fun _ => rfl) fun _ => .inl rfl) (ma_cons (me_op os_sub (me_ix c.toCxF (me_var (j := 1) (fun _ => rfl) fun _ => .inl rfl) me_int) me_int) ma_nil)))) (me_var (j := 2) (fun _ => rfl) fun _ => .inl rfl) (me_fn (fun _ => F1) c (fun _ => rfl) (fun _ => g1) (fun _ => k1) (fun _ => b1) (fun _ => p0) (ma_cons (me_var (j := 0) (fun _ => rfl) fun _ => .inl rfl) (ma_cons (me_ix c.toCxF (me_var (j := 1) (fun _ => rfl) fun _ => .inl rfl) me_int) ma_nil))))
      ms_nil) ms_nil)
      ms_nil))
      (ms_cons (ms_ret (me_callTy (x := "tuple") (cs_tuple c.toCxF) (fun _ => rfl) (fun _ => z_tuple) (by decide +kernel) (ma_cons (me_var (j := 2) (fun _ => rfl) fun _ => .inl rfl) ma_nil)))
      ms_nil)))
theorem sc_law_plus : FnScope ["_law_house_here", "_law_row", "_law_many", "_law_other", "_law_one_here", "_law_two"] ["_law_house_here", "_law_row", "_law_many", "_law_other"] (defScope (topS 19)) := ⟨rfl, rfl, rfl, by decide +kernel, rfl, by decide +kernel, by decide +kernel⟩
theorem ok_law_plus (N : Nat) (F : L2.Fun K "_law_plus" "_law_plus" (topS 19) f fd) (B : NoB mg) (h0 : Has P w K mg base 1 "_law_rest" ["_law_number", "_law_prime"] 2 (m_law_rest N)) : FnG P w K mg base CX0 2 f fd ["_law_house_here", "_law_row", "_law_many", "_law_other"] (spOf K 4 (m_law_plus N)) := by
  have z_zip := B.zip_
  obtain ⟨f0, d0, g0, k0, b0, F0⟩ := h0
  have F0 := F0.up (k := 1) (by decide)
  refine fn_M (mb := b_law_plus N) F sc_law_plus rfl rfl fun cdv E => ?_
  have c : CxG (bX P w K mg base 1 ["_law_house_here", "_law_row", "_law_many", "_law_other", "_law_one_here", "_law_two"] "_law_plus" (defScope (topS 19)) f cdv E) K 1 := bX_cx sc_law_plus
  exact (ms_cons (ms_ret (me_live (mf_comp c.toCxF (mi_zip c.toCxF (fun _ => rfl) (fun _ => z_zip) (me_var (j := 1) (fun _ => rfl) fun _ => .inl rfl) (me_var (j := 3) (fun _ => rfl) fun _ => .inl rfl)) (own := [("_law_one_here", 4), ("_law_two", 5)]) (fun _ => blkOk_by rfl) (mg_tup (n := 2) c.blk.toCxF (mg_cons (mg_name (k := 4) c.blk.nd (fun _ => rfl) fun _ => .inl rfl) (mg_cons (mg_name (k := 5) c.blk.nd (fun _ => rfl) fun _ => .inl rfl) mg_nil))) mts_nil (me_fn (fun _ => F0) c.blk (fun _ => rfl) (fun _ => g0) (fun _ => k0) (fun _ => b0) (fun _ => p0) (ma_cons (me_op (os_add c.blk.toCxF) (me_var (j := 4) (fun _ => rfl) fun _ => .inl rfl) (me_op os_mul (me_var (j := 2) (fun _ => rfl) fun _ => .inr (.inl rfl)) (me_var (j := 5) (fun _ => rfl) fun _ => .inl rfl))) (ma_cons (me_ix c.blk.toCxF (me_var (j := 0) (fun _ => rfl) fun _ => .inr (.inl rfl)) me_int) ma_nil))))))
      ms_nil)
theorem sc_law_sums : FnScope ["_law_bag_here", "_law_house_here", "_law_many", "_law_found", "_law_turn", "_law_one_here", "_law_other", "_law_both"] ["_law_bag_here", "_law_house_here", "_law_many"] (defScope (topS 28)) := ⟨rfl, rfl, rfl, by decide +kernel, rfl, by decide +kernel, by decide +kernel⟩
theorem ok_law_sums (N : Nat) (F : L2.Fun K "_law_sums" "_law_sums" (topS 28) f fd) (B : NoB mg) (h0 : Has P w K mg base 3 "_law_sum" ["_law_bag_here", "_law_house_here"] 2 (m_law_sum N)) (h1 : Has P w K mg base 2 "_law_one" ["_law_bag_here", "_law_things"] 2 (m_law_one N)) (h2 : Has P w K mg base 1 "_law_take" ["_law_bag_here", "_law_many"] 2 (m_law_take N)) (h3 : Has P w K mg base 2 "_law_plus" ["_law_house_here", "_law_row", "_law_many", "_law_other"] 4 (m_law_plus N)) : FnG P w K mg base CX0 4 f fd ["_law_bag_here", "_law_house_here", "_law_many"] (spOf K 3 (m_law_sums N)) := by
  have z_range := B.range_
  have z_tuple := B.tuple_
  obtain ⟨f0, d0, g0, k0, b0, F0⟩ := h0
  have F0 := F0.up (k := 3) (by decide)
  obtain ⟨f1, d1, g1, k1, b1, F1⟩ := h1
  have F1 := F1.up (k := 3) (by decide)
  obtain ⟨f2, d2, g2, k2, b2, F2⟩ := h2
  have F2 := F2.up (k := 3) (by decide)
  obtain ⟨f3, d3, g3, k3, b3, F3⟩ := h3
  have F3 := F3.up (k := 3) (by decide)
  refine fn_M (mb := b_law_sums N) F sc_law_sums rfl rfl fun cdv E => ?_
  have c : CxG (bX P w K mg base 3 ["_law_bag_here", "_law_house_here", "_law_many", "_law_found", "_law_turn", "_law_one_here", "_law_other", "_law_both"] "_law_sums" (defScope (topS 28)) f cdv E) K 3 := bX_cx sc_law_sums
  exact (ms_cons (ms_set (k := 3) c.nd (fun _ => rfl) (fun _ => .inl rfl) (me_live (mf_lst (ma_cons (me_fn (fun _ => F0) c (fun _ => rfl) (fun _ => g0) (fun _ => k0) (fun _ => b0) (fun _ => p0) (ma_cons (me_var (j := 0) (fun _ => rfl) fun _ => .inl rfl) (ma_cons (me_var (j := 1) (fun _ => rfl) fun _ => .inl rfl) ma_nil))) ma_nil))))
      (ms_cons (ms_for (fun _ => PassesOwn.never) c.toCxF (mi_range1 (fun _ => rfl) (fun _ => z_range) (me_op os_sub (me_var (j := 2) (fun _ => rfl) fun _ => .inl rfl) me_int)) (mg_name (k := 4) c.nd (fun _ => rfl) fun _ => .inl rfl) (ms_cons (ms_par (k := 5) (l := 6) c.calm c.nd (fun _ => rfl) (fun _ => rfl) (by decide) (fun _ => rfl) (fun _ => rfl) (me_fn (fun _ => F1) c (fun _ => rfl) (fun _ => g1) (fun _ => k1) (fun _ => b1) (fun _ => p0) (ma_cons (me_var (j := 0) (fun _ => rfl) fun _ => .inl rfl) (ma_cons (me_var (j := 3) (fun _ => rfl) fun _ => .inl rfl) ma_nil))) (me_fn (fun _ => F1) c (fun _ => rfl) (fun _ => g1) (fun _ => k1) (fun _ => b1) (fun _ => p0) (ma_cons (me_var (j := 0) (fun _ => rfl) fun _ => .inl rfl) (ma_cons (me_var (j := 3) (fun _ => rfl) fun _ => .inl rfl) ma_nil))) (fun _ => rfl))
      (ms_cons (ms_set (k := 7) c.nd (fun _ => rfl) (fun _ => .inl rfl) (me_callTy (x := "tuple") (cs_tuple c.toCxF) (fun _ => rfl) (fun _ => z_tuple) (by decide +kernel) (ma_cons (me_fn (fun _ => F3) c (fun _ => rfl) (fun _ => g3) (fun _ => k3) (fun _ => b3) (fun _ => p0) (ma_cons (me_var (j := 1) (fun _ => rfl) fun _ => .inl rfl) (ma_cons (me_var (j := 5) (fun _ => rfl) fun _ => .inl rfl) (ma_cons (me_op (os_add c.toCxF) me_int (me_fn (fun _ => F2) c (fun _ => rfl) (fun _ => g2) (fun _ => k2) (fun _ => b2) (fun _ => p0) (ma_cons (me_var (j := 0) (fun _ => rfl) fun _ => .inl rfl) (ma_cons (me_op os_sub (me_ix c.toCxF (me_var (j := 1) (fun _ => rfl) fun _ => .inl rfl) me_int) me_int) ma_nil)))) (ma_cons (me_var (j := 6) (fun _ => rfl) fun _ => .inl rfl) ma_nil))))) ma_nil)))
      (ms_cons (ms_expr (me_chg ch_append PySem.F.slot_list_append PySem.F.type_list_append (me_var (j := 3) (fun _ => rfl) fun _ => .inl rfl) (ma_cons (me_fn (fun _ => F1) c (fun _ => rfl) (fun _ => g1) (fun _ => k1) (fun _ => b1) (fun _ => p0) (ma_cons (me_var (j := 0) (fun _ => rfl) fun _ => .inl rfl) (ma_cons (me_dead (mf_lst (ma_cons (me_fn (fun _ => F0) c (fun _ => rfl) (fun _ => g0) (fun _ => k0) (fun _ => b0) (fun _ => p0) (ma_cons (me_var (j := 0) (fun _ => rfl) fun _ => .inl rfl) (ma_cons (me_var (j := 1) (fun _ => rfl) fun _ => .inl rfl) ma_nil))) (ma_cons (me_fn (fun _ => F0) c (fun _ => rfl) (fun _ => g0) (fun _ => k0) (fun _ => b0) (fun _ => p0) (ma_cons (me_var (j := 0) (fun _ => rfl) fun _ => .inl rfl) (ma_cons (me_var (j := 1) (fun _ => rfl) fun _ => .inl rfl) ma_nil))) (ma_cons (me_var (j := 7) (fun _ => rfl) fun _ => .inl rfl) ma_nil))))) ma_nil))) ma_nil) (c := c.toCxF)))
      ms_nil))))
      (ms_cons (ms_ret (me_var (j := 3) (fun _ => rfl) fun _ => .inl rfl))
      ms_nil)))
theorem sc_law_world : FnScope ["_law_bag_here", "_law_house_here", "_law_unknown"] ["_law_bag_here", "_law_house_here"] (defScope (topS 30)) := ⟨rfl, rfl, rfl, by decide +kernel, rfl, by decide +kernel, by decide +kernel⟩
theorem ok_law_world (N : Nat) (F : L2.Fun K "_law_world" "_law_world" (topS 30) f fd) (B : NoB mg) (h0 : Has P w K mg base 1 "_law_take" ["_law_bag_here", "_law_many"] 2 (m_law_take N)) : FnG P w K mg base CX0 2 f fd ["_law_bag_here", "_law_house_here"] (spOf K 2 (m_law_world N)) := by
  have z_range := B.range_
  have z_tuple := B.tuple_
  obtain ⟨f0, d0, g0, k0, b0, F0⟩ := h0
  have F0 := F0.up (k := 1) (by decide)
  refine fn_M (mb := b_law_world N) F sc_law_world rfl rfl fun cdv E => ?_
  have c : CxG (bX P w K mg base 1 ["_law_bag_here", "_law_house_here", "_law_unknown"] "_law_world" (defScope (topS 30)) f cdv E) K 1 := bX_cx sc_law_world
  exact (ms_cons (ms_ret (me_tupleF c.toCxF (fun _ => rfl) (fun _ => z_tuple) (mf_comp c.toCxF (mi_range1 (fun _ => rfl) (fun _ => z_range) (me_ix c.toCxF (me_var (j := 1) (fun _ => rfl) fun _ => .inr (.inl rfl)) me_int)) (own := [("_law_unknown", 2)]) (fun _ => blkOk_by rfl) (mg_name (k := 2) c.blk.nd (fun _ => rfl) fun _ => .inl rfl) mts_nil (me_fn (fun _ => F0) c.blk (fun _ => rfl) (fun _ => g0) (fun _ => k0) (fun _ => b0) (fun _ => p0) (ma_cons (me_var (j := 0) (fun _ => rfl) fun _ => .inr (.inl rfl)) (ma_cons (me_ix c.blk.toCxF (me_var (j := 1) (fun _ => rfl) fun _ => .inr (.inl rfl)) me_int) ma_nil))))))
      ms_nil)
theorem sc_law_plan : FnScope ["_law_bag_here", "_law_house_here", "_law_most", "_law_many", "_law_world_here", "_law_sums_here", "_law_calls", "_law_way", "_law_place", "_law_some", "_law_deed_here", "_law_begin", "_law_end"] ["_law_bag_here", "_law_house_here", "_law_most"] (defScope (topS 37)) := ⟨rfl, rfl, rfl, by decide +kernel, rfl, by decide +kernel, by decide +kernel⟩
theorem ok_law_plan (N : Nat) (F : L2.Fun K "_law_plan" "_law_plan" (topS 37) f fd) (B : NoB mg) (h0 : Has P w K mg base 2 "_law_mixed" ["_law_bag_here", "_law_things"] 2 (m_law_mixed N)) (h1 : Has P w K mg base 3 "_law_stretch" ["_law_bag_here", "_law_moment", "_law_way"] 3 (m_law_stretch N)) (h2 : Has P w K mg base 1 "_law_take" ["_law_bag_here", "_law_many"] 2 (m_law_take N)) (h3 : Has P w K mg base 2 "_law_comes_to" ["_law_house_here", "_law_world_here", "_law_sums_here"] 3 (m_law_comes_to N)) (h4 : Has P w K mg base 2 "_law_one" ["_law_bag_here", "_law_things"] 2 (m_law_one N)) (h5 : Has P w K mg base 4 "_law_sums" ["_law_bag_here", "_law_house_here", "_law_many"] 3 (m_law_sums N)) (h6 : Has P w K mg base 2 "_law_world" ["_law_bag_here", "_law_house_here"] 2 (m_law_world N)) : FnG P w K mg base CX0 5 f fd ["_law_bag_here", "_law_house_here", "_law_most"] (spOf K 3 (m_law_plan N)) := by
  have z_list := B.list_
  have z_range := B.range_
  have z_tuple := B.tuple_
  obtain ⟨f0, d0, g0, k0, b0, F0⟩ := h0
  have F0 := F0.up (k := 4) (by decide)
  obtain ⟨f1, d1, g1, k1, b1, F1⟩ := h1
  have F1 := F1.up (k := 4) (by decide)
  obtain ⟨f2, d2, g2, k2, b2, F2⟩ := h2
  have F2 := F2.up (k := 4) (by decide)
  obtain ⟨f3, d3, g3, k3, b3, F3⟩ := h3
  have F3 := F3.up (k := 4) (by decide)
  obtain ⟨f4, d4, g4, k4, b4, F4⟩ := h4
  have F4 := F4.up (k := 4) (by decide)
  obtain ⟨f5, d5, g5, k5, b5, F5⟩ := h5
  have F5 := F5.up (k := 4) (by decide)
  obtain ⟨f6, d6, g6, k6, b6, F6⟩ := h6
  have F6 := F6.up (k := 4) (by decide)
  refine fn_M (mb := b_law_plan N) F sc_law_plan rfl rfl fun cdv E => ?_
  have c : CxG (bX P w K mg base 4 ["_law_bag_here", "_law_house_here", "_law_most", "_law_many", "_law_world_here", "_law_sums_here", "_law_calls", "_law_way", "_law_place", "_law_some", "_law_deed_here", "_law_begin", "_law_end"] "_law_plan" (defScope (topS 37)) f cdv E) K 4 := bX_cx sc_law_plan
  exact (ms_cons (ms_par (k := 3) (l := 4) c.calm c.nd (fun _ => rfl) (fun _ => rfl) (by decide) (fun _ => rfl) (fun _ => rfl) (me_fn (fun _ => F4) c (fun _ => rfl) (fun _ => g4) (fun _ => k4) (fun _ => b4) (fun _ => p0) (ma_cons (me_var (j := 0) (fun _ => rfl) fun _ => .inl rfl) (ma_cons (me_dead (mf_lst (ma_cons (me_var (j := 2) (fun _ => rfl) fun _ => .inl rfl) (ma_cons (me_op os_sub (me_var (j := 2) (fun _ => rfl) fun _ => .inl rfl) me_int) (ma_cons (me_op os_div (me_var (j := 2) (fun _ => rfl) fun _ => .inl rfl) me_int) (ma_cons (me_fn (fun _ => F2) c (fun _ => rfl) (fun _ => g2) (fun _ => k2) (fun _ => b2) (fun _ => p0) (ma_cons (me_var (j := 0) (fun _ => rfl) fun _ => .inl rfl) (ma_cons (me_op (os_add c.toCxF) (me_var (j := 2) (fun _ => rfl) fun _ => .inl rfl) me_int) ma_nil))) ma_nil)))))) ma_nil))) (me_fn (fun _ => F6) c (fun _ => rfl) (fun _ => g6) (fun _ => k6) (fun _ => b6) (fun _ => p0) (ma_cons (me_var (j := 0) (fun _ => rfl) fun _ => .inl rfl) (ma_cons (me_var (j := 1) (fun _ => rfl) fun _ => .inl rfl) ma_nil))) (fun _ => rfl))
      (ms_cons (ms_par (k := 5) (l := 6) c.calm c.nd (fun _ => rfl) (fun _ => rfl) (by decide) (fun _ => rfl) (fun _ => rfl) (me_fn (fun _ => F5) c (fun _ => rfl) (fun _ => g5) (fun _ => k5) (fun _ => b5) (fun _ => p0) (ma_cons (me_var (j := 0) (fun _ => rfl) fun _ => .inl rfl) (ma_cons (me_var (j := 1) (fun _ => rfl) fun _ => .inl rfl) (ma_cons (me_fn (fun _ => F4) c (fun _ => rfl) (fun _ => g4) (fun _ => k4) (fun _ => b4) (fun _ => p0) (ma_cons (me_var (j := 0) (fun _ => rfl) fun _ => .inl rfl) (ma_cons (me_dead (mf_lst (ma_cons me_int (ma_cons me_int (ma_cons me_int (ma_cons me_int ma_nil)))))) ma_nil))) ma_nil)))) (me_live (mf_lst ma_nil)) (fun _ => rfl))
      (ms_cons (ms_set (k := 7) c.nd (fun _ => rfl) (fun _ => .inl rfl) (me_fn (fun _ => F4) c (fun _ => rfl) (fun _ => g4) (fun _ => k4) (fun _ => b4) (fun _ => p0) (ma_cons (me_var (j := 0) (fun _ => rfl) fun _ => .inl rfl) (ma_cons (me_dead (mf_lst (ma_cons me_int (ma_cons me_int (ma_cons me_int (ma_cons me_int (ma_cons me_int ma_nil))))))) ma_nil))))
      (ms_cons (ms_for (fun _ => PassesOwn.never) c.toCxF (mi_seq c.toCxF (me_fn (fun _ => F0) c (fun _ => rfl) (fun _ => g0) (fun _ => k0) (fun _ => b0) (fun _ => p0) (ma_cons (me_var (j := 0) (fun _ => rfl) fun _ => .inl rfl) (ma_cons (me_dead (mf_range c.toCxF (fun _ => rfl) (fun _ => z_list) (fun _ => rfl) (fun _ => z_range) (me_var (j := 3) (fun _ => rfl) fun _ => .inl rfl))) ma_nil)))) (mg_name (k := 8) c.nd (fun _ => rfl) fun _ => .inl rfl) (ms_cons (ms_set (k := 9) c.nd (fun _ => rfl) (fun _ => .inl rfl) (me_fn (fun _ => F4) c (fun _ => rfl) (fun _ => g4) (fun _ => k4) (fun _ => b4) (fun _ => p0) (ma_cons (me_var (j := 0) (fun _ => rfl) fun _ => .inl rfl) (ma_cons (me_var (j := 5) (fun _ => rfl) fun _ => .inl rfl) ma_nil))))
      (ms_cons (ms_set (k := 10) c.nd (fun _ => rfl) (fun _ => .inl rfl) (me_if (mt_cmp (os_eq c.toCxF) (me_fn (fun _ => F2) c (fun _ => rfl) (fun _ => g2) (fun _ => k2) (fun _ => b2) (fun _ => p0) (ma_cons (me_var (j := 0) (fun _ => rfl) fun _ => .inl rfl) (ma_cons me_int ma_nil))) me_int) (me_tup (ma_cons me_str (ma_cons (me_var (j := 9) (fun _ => rfl) fun _ => .inl rfl) ma_nil))) (me_tup (ma_cons me_str (ma_cons (me_var (j := 9) (fun _ => rfl) fun _ => .inl rfl) (ma_cons (me_fn (fun _ => F3) c (fun _ => rfl) (fun _ => g3) (fun _ => k3) (fun _ => b3) (fun _ => p0) (ma_cons (me_var (j := 1) (fun _ => rfl) fun _ => .inl rfl) (ma_cons (me_var (j := 4) (fun _ => rfl) fun _ => .inl rfl) (ma_cons (me_var (j := 9) (fun _ => rfl) fun _ => .inl rfl) ma_nil)))) ma_nil))))))
      (ms_cons (ms_asg (me_fn (fun _ => F1) c (fun _ => rfl) (fun _ => g1) (fun _ => k1) (fun _ => b1) (fun _ => p0) (ma_cons (me_var (j := 0) (fun _ => rfl) fun _ => .inl rfl) (ma_cons (me_op os_mul me_int (me_var (j := 8) (fun _ => rfl) fun _ => .inl rfl)) (ma_cons (me_var (j := 7) (fun _ => rfl) fun _ => .inl rfl) ma_nil)))) (mg_tup (n := 2) c.toCxF (mg_cons (mg_name (k := 11) c.nd (fun _ => rfl) fun _ => .inl rfl) (mg_cons (mg_name (k := 12) c.nd (fun _ => rfl) fun _ => .inl rfl) mg_nil))))
      (ms_cons (ms_expr (me_chg ch_append PySem.F.slot_list_append PySem.F.type_list_append (me_var (j := 6) (fun _ => rfl) fun _ => .inl rfl) (ma_cons (me_tup (ma_cons (me_var (j := 10) (fun _ => rfl) fun _ => .inl rfl) (ma_cons (me_var (j := 11) (fun _ => rfl) fun _ => .inl rfl) (ma_cons (me_if (mt_isN (me_var (j := 12) (fun _ => rfl) fun _ => .inl rfl)) (me_op (os_add c.toCxF) (me_var (j := 11) (fun _ => rfl) fun _ => .inl rfl) me_int) (me_var (j := 12) (fun _ => rfl) fun _ => .inl rfl)) ma_nil)))) ma_nil) (c := c.toCxF)))
      ms_nil)))))
      (ms_cons (ms_ret (me_tup (ma_cons (me_var (j := 1) (fun _ => rfl) fun _ => .inl rfl) (ma_cons (me_callTy (x := "tuple") (cs_tuple c.toCxF) (fun _ => rfl) (fun _ => z_tuple) (by decide +kernel) (ma_cons (me_var (j := 6) (fun _ => rfl) fun _ => .inl rfl) ma_nil)) ma_nil))))
      ms_nil)))))
theorem sc_law_put : FnScope ["_law_items", "_law_index", "_law_item"] ["_law_items", "_law_index", "_law_item"] (defScope (topS 33)) := ⟨rfl, rfl, rfl, by decide +kernel, rfl, by decide +kernel, by decide +kernel⟩
theorem ok_law_put (N : Nat) (F : L2.Fun K "_law_put" "_law_put" (topS 33) f fd) (B : NoB mg)  : FnG P w K mg base CX0 1 f fd ["_law_items", "_law_index", "_law_item"] (spOf K 3 (m_law_put N)) := by
  refine fn_M (mb := b_law_put N) F sc_law_put rfl rfl fun cdv E => ?_
  have c : CxG (bX P w K mg base 0 ["_law_items", "_law_index", "_law_item"] "_law_put" (defScope (topS 33)) f cdv E) K 0 := bX_cx sc_law_put
  exact (ms_cons (ms_ret (me_op (os_add c.toCxF) (me_op (os_add c.toCxF) (me_slT c.toCxF (me_var (j := 0) (fun _ => rfl) fun _ => .inl rfl) mo_none (mo_some (me_var (j := 1) (fun _ => rfl) fun _ => .inl rfl))) (me_tup (ma_cons (me_var (j := 2) (fun _ => rfl) fun _ => .inl rfl) ma_nil))) (me_slT c.toCxF (me_var (j := 0) (fun _ => rfl) fun _ => .inl rfl) (mo_some (me_op (os_add c.toCxF) (me_var (j := 1) (fun _ => rfl) fun _ => .inl rfl) me_int)) mo_none)))
      ms_nil)
theorem sc_law_other_answer : FnScope ["_law_bag_here", "_law_house_here", "_law_call", "_law_menu", "_law_one_here"] ["_law_bag_here", "_law_house_here", "_law_call"] (defScope (topS 34)) := ⟨rfl, rfl, rfl, by decide +kernel, rfl, by decide +kernel, by decide +kernel⟩
theorem ok_law_other_answer (N : Nat) (F : L2.Fun K "_law_other_answer" "_law_other_answer" (topS 34) f fd) (B : NoB mg) (h0 : Has P w K mg base 1 "_law_alike" ["_law_found", "_law_due"] 2 (m_law_alike N)) (h1 : Has P w K mg base 2 "_law_one" ["_law_bag_here", "_law_things"] 2 (m_law_one N)) : FnG P w K mg base CX0 3 f fd ["_law_bag_here", "_law_house_here", "_law_call"] (spOf K 3 (m_law_other_answer N)) := by
  have z_list := B.list_
  have z_range := B.range_
  obtain ⟨f0, d0, g0, k0, b0, F0⟩ := h0
  have F0 := F0.up (k := 2) (by decide)
  obtain ⟨f1, d1, g1, k1, b1, F1⟩ := h1
  have F1 := F1.up (k := 2) (by decide)
  refine fn_M (mb := b_law_other_answer N) F sc_law_other_answer rfl rfl fun cdv E => ?_
  have c : CxG (bX P w K mg base 2 ["_law_bag_here", "_law_house_here", "_law_call", "_law_menu", "_law_one_here"] "_law_other_answer" (defScope (topS 34)) f cdv E) K 2 := bX_cx sc_law_other_answer
  exact (ms_cons (ms_set (k := 3) c.nd (fun _ => rfl) (fun _ => .inl rfl) (me_if (mt_cmp (os_eq c.toCxF) (me_ix c.toCxF (me_ix c.toCxF (me_var (j := 2) (fun _ => rfl) fun _ => .inr (.inl rfl)) me_int) me_int) me_str) (me_dead (mf_lst (ma_cons me_str (ma_cons me_str (ma_cons me_str ma_nil))))) (me_dead (mf_add (me_dead (mf_lst (ma_cons me_str ma_nil))) (me_dead (mf_range c.toCxF (fun _ => rfl) (fun _ => z_list) (fun _ => rfl) (fun _ => z_range) (me_ix c.toCxF (me_var (j := 1) (fun _ => rfl) fun _ => .inl rfl) me_int)))))))
      (ms_cons (ms_ret (me_fnL (fun _ => F1) c (fun _ => rfl) (fun _ => g1) (fun _ => k1) (fun _ => b1) (fun _ => p0) (ma_cons (me_var (j := 0) (fun _ => rfl) fun _ => .inl rfl) (ma_cons (me_dead (mf_comp c.toCxF (mi_seq c.toCxF (me_var (j := 3) (fun _ => rfl) fun _ => .inl rfl)) (own := [("_law_one_here", 4)]) (fun _ => blkOk_by rfl) (mg_name (k := 4) c.blk.nd (fun _ => rfl) fun _ => .inl rfl) (mts_one (mt_not (mt_val (me_fn (fun _ => F0) c.blk (fun _ => rfl) (fun _ => g0) (fun _ => k0) (fun _ => b0) (fun _ => p0) (ma_cons (me_var (j := 4) (fun _ => rfl) fun _ => .inl rfl) (ma_cons (me_ix c.blk.toCxF (me_var (j := 2) (fun _ => rfl) fun _ => .inr (.inl rfl)) me_int) ma_nil)))))) (me_var (j := 4) (fun _ => rfl) fun _ => .inl rfl))) ma_nil))))
      ms_nil))
theorem sc_law_bent_history : FnScope ["_law_bag_here", "_law_history_here", "_law_house_here", "_law_calls", "_law_index", "_law_deed_here", "_law_begin", "_law_end", "_law_answer_here", "_law_other"] ["_law_bag_here", "_law_history_here"] (defScope (topS 35)) := ⟨rfl, rfl, rfl, by decide +kernel, rfl, by decide +kernel, by decide +kernel⟩
theorem ok_law_bent_history (N : Nat) (F : L2.Fun K "_law_bent_history" "_law_bent_history" (topS 35) f fd) (B : NoB mg) (h0 : Has P w K mg base 2 "_law_one" ["_law_bag_here", "_law_things"] 2 (m_law_one N)) (h1 : Has P w K mg base 1 "_law_put" ["_law_items", "_law_index", "_law_item"] 3 (m_law_put N)) (h2 : Has P w K mg base 1 "_law_take" ["_law_bag_here", "_law_many"] 2 (m_law_take N)) (h3 : Has P w K mg base 3 "_law_other_answer" ["_law_bag_here", "_law_house_here", "_law_call"] 3 (m_law_other_answer N)) : FnG P w K mg base CX0 4 f fd ["_law_bag_here", "_law_history_here"] (spOf K 2 (m_law_bent_history N)) := by
  have z_len := B.len_
  obtain ⟨f0, d0, g0, k0, b0, F0⟩ := h0
  have F0 := F0.up (k := 3) (by decide)
  obtain ⟨f1, d1, g1, k1, b1, F1⟩ := h1
  have F1 := F1.up (k := 3) (by decide)
  obtain ⟨f2, d2, g2, k2, b2, F2⟩ := h2
  have F2 := F2.up (k := 3) (by decide)
  obtain ⟨f3, d3, g3, k3, b3, F3⟩ := h3
  have F3 := F3.up (k := 3) (by decide)
  refine fn_M (mb := b_law_bent_history N) F sc_law_bent_history rfl rfl fun cdv E => ?_
  have c : CxG (bX P w K mg base 3 ["_law_bag_here", "_law_history_here", "_law_house_here", "_law_calls", "_law_index", "_law_deed_here", "_law_begin", "_law_end", "_law_answer_here", "_law_other"] "_law_bent_history" (defScope (topS 35)) f cdv E) K 3 := bX_cx sc_law_bent_history
  exact (ms_cons (ms_asg (me_var (j := 1) (fun _ => rfl) fun _ => .inl rfl) (mg_tup (n := 2) c.toCxF (mg_cons (mg_name (k := 2) c.nd (fun _ => rfl) fun _ => .inl rfl) (mg_cons (mg_name (k := 3) c.nd (fun _ => rfl) fun _ => .inl rfl) mg_nil))))
      (ms_cons (ms_if (mt_cmp (os_eq c.toCxF) (me_var (j := 3) (fun _ => rfl) fun _ => .inl rfl) (me_tup ma_nil)) (ms_cons (ms_ret (me_var (j := 1) (fun _ => rfl) fun _ => .inl rfl))
      ms_nil) ms_nil)
      (ms_cons (ms_set (k := 4) c.nd (fun _ => rfl) (fun _ => .inl rfl) (me_fn (fun _ => F2) c (fun _ => rfl) (fun _ => g2) (fun _ => k2) (fun _ => b2) (fun _ => p0) (ma_cons (me_var (j := 0) (fun _ => rfl) fun _ => .inl rfl) (ma_cons (me_callB (x := "len") (cs_len c.toCxF) (fun _ => rfl) (fun _ => z_len) (by decide +kernel) (ma_cons (me_var (j := 3) (fun _ => rfl) fun _ => .inl rfl) ma_nil)) ma_nil))))
      (ms_cons (ms_asg (me_ix c.toCxF (me_var (j := 3) (fun _ => rfl) fun _ => .inl rfl) (me_var (j := 4) (fun _ => rfl) fun _ => .inl rfl)) (mg_tup (n := 4) c.toCxF (mg_cons (mg_name (k := 5) c.nd (fun _ => rfl) fun _ => .inl rfl) (mg_cons (mg_name (k := 6) c.nd (fun _ => rfl) fun _ => .inl rfl) (mg_cons (mg_name (k := 7) c.nd (fun _ => rfl) fun _ => .inl rfl) (mg_cons (mg_name (k := 8) c.nd (fun _ => rfl) fun _ => .inl rfl) mg_nil))))))
      (ms_cons (ms_if (mt_cmp (os_eq c.toCxF) (me_fn (fun _ => F2) c (fun _ => rfl) (fun _ => g2) (fun _ => k2) (fun _ => b2) (fun _ => p0) (ma_cons (me_var (j := 0) (fun _ => rfl) fun _ => .inl rfl) (ma_cons me_int ma_nil))) me_int) (ms_cons (ms_ret (me_tup (ma_cons (me_var (j := 2) (fun _ => rfl) fun _ => .inl rfl) (ma_cons (me_fn (fun _ => F1) c (fun _ => rfl) (fun _ => g1) (fun _ => k1) (fun _ => b1) (fun _ => p0) (ma_cons (me_var (j := 3) (fun _ => rfl) fun _ => .inl rfl) (ma_cons (me_var (j := 4) (fun _ => rfl) fun _ => .inl rfl) (ma_cons (me_tup (ma_cons (me_var (j := 5) (fun _ => rfl) fun _ => .inl rfl) (ma_cons (me_var (j := 6) (fun _ => rfl) fun _ => .inl rfl) (ma_cons (me_var (j := 7) (fun _ => rfl) fun _ => .inl rfl) (ma_cons (me_fn (fun _ => F3) c (fun _ => rfl) (fun _ => g3) (fun _ => k3) (fun _ => b3) (fun _ => p0) (ma_cons (me_var (j := 0) (fun _ => rfl) fun _ => .inl rfl) (ma_cons (me_var (j := 2) (fun _ => rfl) fun _ => .inl rfl) (ma_cons (me_ix c.toCxF (me_var (j := 3) (fun _ => rfl) fun _ => .inl rfl) (me_var (j := 4) (fun _ => rfl) fun _ => .inl rfl)) ma_nil)))) ma_nil))))) ma_nil)))) ma_nil))))
      ms_nil) ms_nil)
      (ms_cons (ms_set (k := 9) c.nd (fun _ => rfl) (fun _ => .inl rfl) (me_op (os_add c.toCxF) (me_ix c.toCxF (me_fn (fun _ => F0) c (fun _ => rfl) (fun _ => g0) (fun _ => k0) (fun _ => b0) (fun _ => p0) (ma_cons (me_var (j := 0) (fun _ => rfl) fun _ => .inl rfl) (ma_cons (me_var (j := 3) (fun _ => rfl) fun _ => .inl rfl) ma_nil))) me_int) (me_fn (fun _ => F0) c (fun _ => rfl) (fun _ => g0) (fun _ => k0) (fun _ => b0) (fun _ => p0) (ma_cons (me_var (j := 0) (fun _ => rfl) fun _ => .inl rfl) (ma_cons (me_dead (mf_lst (ma_cons me_int (ma_cons me_int (ma_cons me_int (ma_cons me_int (ma_cons (me_neg me_int) ma_nil))))))) ma_nil)))))
      (ms_cons (ms_ret (me_tup (ma_cons (me_var (j := 2) (fun _ => rfl) fun _ => .inl rfl) (ma_cons (me_fn (fun _ => F1) c (fun _ => rfl) (fun _ => g1) (fun _ => k1) (fun _ => b1) (fun _ => p0) (ma_cons (me_var (j := 3) (fun _ => rfl) fun _ => .inl rfl) (ma_cons (me_var (j := 4) (fun _ => rfl) fun _ => .inl rfl) (ma_cons (me_tup (ma_cons (me_var (j := 5) (fun _ => rfl) fun _ => .inl rfl) (ma_cons (me_var (j := 9) (fun _ => rfl) fun _ => .inl rfl) (ma_cons (me_op (os_add c.toCxF) (me_var (j := 9) (fun _ => rfl) fun _ => .inl rfl) (me_fn (fun _ => F0) c (fun _ => rfl) (fun _ => g0) (fun _ => k0) (fun _ => b0) (fun _ => p0) (ma_cons (me_var (j := 0) (fun _ => rfl) fun _ => .inl rfl) (ma_cons (me_dead (mf_lst (ma_cons me_int (ma_cons me_int (ma_cons me_int ma_nil))))) ma_nil)))) (ma_cons (me_var (j := 8) (fun _ => rfl) fun _ => .inl rfl) ma_nil))))) ma_nil)))) ma_nil))))
      ms_nil)))))))
theorem sc_law_inverse : FnScope ["_law_prime", "_law_number", "_law_one_here"] ["_law_prime", "_law_number"] (defScope (topS 18)) := ⟨rfl, rfl, rfl, by decide +kernel, rfl, by decide +kernel, by decide +kernel⟩
theorem ok_law_inverse (N : Nat) (F : L2.Fun K "_law_inverse" "_law_inverse" (topS 18) f fd) (B : NoB mg) (h0 : Has P w K mg base 1 "_law_rest" ["_law_number", "_law_prime"] 2 (m_law_rest N)) : FnG P w K mg base CX0 2 f fd ["_law_prime", "_law_number"] (spOf K 2 (m_law_inverse N)) := by
  have z_range := B.range_
  obtain ⟨f0, d0, g0, k0, b0, F0⟩ := h0
  have F0 := F0.up (k := 1) (by decide)
  refine fn_M (mb := b_law_inverse N) F sc_law_inverse rfl rfl fun cdv E => ?_
  have c : CxG (bX P w K mg base 1 ["_law_prime", "_law_number", "_law_one_here"] "_law_inverse" (defScope (topS 18)) f cdv E) K 1 := bX_cx sc_law_inverse
  exact (ms_cons (ms_ret (me_ix c.toCxF (me_dead (mf_comp c.toCxF (mi_range2 (fun _ => rfl) (fun _ => z_range) me_int (me_var (j := 0) (fun _ => rfl) fun _ => .inr (.inl rfl))) (own := [("_law_one_here", 2)]) (fun _ => blkOk_by rfl) (mg_name (k := 2) c.blk.nd (fun _ => rfl) fun _ => .inl rfl) (mts_one (mt_cmp (os_eq c.blk.toCxF) (me_fn (fun _ => F0) c.blk (fun _ => rfl) (fun _ => g0) (fun _ => k0) (fun _ => b0) (fun _ => p0) (ma_cons (me_op os_mul (me_var (j := 2) (fun _ => rfl) fun _ => .inl rfl) (me_var (j := 1) (fun _ => rfl) fun _ => .inr (.inl rfl))) (ma_cons (me_var (j := 0) (fun _ => rfl) fun _ => .inr (.inl rfl)) ma_nil))) me_int)) (me_var (j := 2) (fun _ => rfl) fun _ => .inl rfl))) me_int))
      ms_nil)
theorem sc_law_flat : FnScope ["_law_row", "_law_many", "_law_index", "_law_one_here"] ["_law_row", "_law_many", "_law_index"] (defScope (topS 20)) := ⟨rfl, rfl, rfl, by decide +kernel, rfl, by decide +kernel, by decide +kernel⟩
theorem ok_law_flat (N : Nat) (F : L2.Fun K "_law_flat" "_law_flat" (topS 20) f fd) (B : NoB mg)  : FnG P w K mg base CX0 1 f fd ["_law_row", "_law_many", "_law_index"] (spOf K 3 (m_law_flat N)) := by
  have z_int := B.int_
  have z_list := B.list_
  have z_range := B.range_
  refine fn_M (mb := b_law_flat N) F sc_law_flat rfl rfl fun cdv E => ?_
  have c : CxG (bX P w K mg base 0 ["_law_row", "_law_many", "_law_index", "_law_one_here"] "_law_flat" (defScope (topS 20)) f cdv E) K 0 := bX_cx sc_law_flat
  exact (ms_cons (ms_ret (me_live (mf_add (me_dead (mf_add (me_dead (mf_list c.toCxF (fun _ => rfl) (fun _ => z_list) (ma_cons (me_ix c.toCxF (me_var (j := 0) (fun _ => rfl) fun _ => .inl rfl) me_int) ma_nil))) (me_dead (mf_lst (ma_cons (me_ix c.toCxF (me_var (j := 0) (fun _ => rfl) fun _ => .inl rfl) me_int) ma_nil))))) (me_dead (mf_comp c.toCxF (mi_range1 (fun _ => rfl) (fun _ => z_range) (me_var (j := 1) (fun _ => rfl) fun _ => .inl rfl)) (own := [("_law_one_here", 3)]) (fun _ => blkOk_by rfl) (mg_name (k := 3) c.blk.nd (fun _ => rfl) fun _ => .inl rfl) mts_nil (me_callTy (x := "int") (cs_int) (fun _ => rfl) (fun _ => z_int) (by decide +kernel) (ma_cons (me_cmp (os_eq c.blk.toCxF) (me_var (j := 3) (fun _ => rfl) fun _ => .inl rfl) (me_var (j := 2) (fun _ => rfl) fun _ => .inr (.inl rfl))) ma_nil)))))))
      ms_nil)
theorem sc_law_echelon : FnScope ["_law_house_here", "_law_rows", "_law_found", "_law_index", "_law_row", "_law_items", "_law_place", "_law_lead", "_law_places", "_law_turn"] ["_law_house_here", "_law_rows"] (defScope (topS 21)) := ⟨rfl, rfl, rfl, by decide +kernel, rfl, by decide +kernel, by decide +kernel⟩
theorem ok_law_echelon (N : Nat) (F : L2.Fun K "_law_echelon" "_law_echelon" (topS 21) f fd) (B : NoB mg) (h0 : Has P w K mg base 2 "_law_plus" ["_law_house_here", "_law_row", "_law_many", "_law_other"] 4 (m_law_plus N)) (h1 : Has P w K mg base 2 "_law_inverse" ["_law_prime", "_law_number"] 2 (m_law_inverse N)) (h2 : Has P w K mg base 1 "_law_flat" ["_law_row", "_law_many", "_law_index"] 3 (m_law_flat N)) : FnG P w K mg base CX0 3 f fd ["_law_house_here", "_law_rows"] (spOf K 2 (m_law_echelon N)) := by
  have z_enumerate := B.enumerate_
  have z_len := B.len_
  have z_range := B.range_
  have z_tuple := B.tuple_
  obtain ⟨f0, d0, g0, k0, b0, F0⟩ := h0
  have F0 := F0.up (k := 2) (by decide)
  obtain ⟨f1, d1, g1, k1, b1, F1⟩ := h1
  have F1 := F1.up (k := 2) (by decide)
  obtain ⟨f2, d2, g2, k2, b2, F2⟩ := h2
  have F2 := F2.up (k := 2) (by decide)
  refine fn_M (mb := b_law_echelon N) F sc_law_echelon rfl rfl fun cdv E => ?_
  have c : CxG (bX P w K mg base 2 ["_law_house_here", "_law_rows", "_law_found", "_law_index", "_law_row", "_law_items", "_law_place", "_law_lead", "_law_places", "_law_turn"] "_law_echelon" (defScope (topS 21)) f cdv E) K 2 := bX_cx sc_law_echelon
  exact (ms_cons (ms_set (k := 2) c.nd (fun _ => rfl) (fun _ => .inl rfl) (me_live (mf_lst ma_nil)))
      (ms_cons (ms_for (fun _ => PassesOwn.never) c.toCxF (mi_enum c.toCxF (fun _ => rfl) (fun _ => z_enumerate) (me_var (j := 1) (fun _ => rfl) fun _ => .inl rfl)) (mg_tup (n := 2) c.toCxF (mg_cons (mg_name (k := 3) c.nd (fun _ => rfl) fun _ => .inl rfl) (mg_cons (mg_name (k := 4) c.nd (fun _ => rfl) fun _ => .inl rfl) mg_nil))) (ms_cons (ms_set (k := 5) c.nd (fun _ => rfl) (fun _ => .inr rfl) (me_fn (fun _ => F2) c (fun _ => rfl) (fun _ => g2) (fun _ => k2) (fun _ => b2) (fun _ => p0) (ma_cons (me_var (j := 4) (fun _ => rfl) fun _ => .inl rfl) (ma_cons (me_callB (x := "len") (cs_len c.toCxF) (fun _ => rfl) (fun _ => z_len) (by decide +kernel) (ma_cons (me_var (j := 1) (fun _ => rfl) fun _ => .inl rfl) ma_nil)) (ma_cons (me_var (j := 3) (fun _ => rfl) fun _ => .inl rfl) ma_nil)))))
      (ms_cons (ms_for (fun _ => PassesOwn.never) c.toCxF (mi_seq c.toCxF (me_var (j := 2) (fun _ => rfl) fun _ => .inl rfl)) (mg_tup (n := 2) c.toCxF (mg_cons (mg_name (k := 6) c.nd (fun _ => rfl) fun _ => .inl rfl) (mg_cons (mg_name (k := 7) c.nd (fun _ => rfl) fun _ => .inl rfl) mg_nil))) (ms_cons (ms_set (k := 5) c.nd (fun _ => rfl) (fun _ => .inr rfl) (me_fn (fun _ => F0) c (fun _ => rfl) (fun _ => g0) (fun _ => k0) (fun _ => b0) (fun _ => p0) (ma_cons (me_var (j := 0) (fun _ => rfl) fun _ => .inl rfl) (ma_cons (me_var (j := 5) (fun _ => rfl) fun _ => .inr (.inl rfl)) (ma_cons (me_neg (me_ix c.toCxF (me_var (j := 5) (fun _ => rfl) fun _ => .inr (.inl rfl)) (me_var (j := 6) (fun _ => rfl) fun _ => .inl rfl))) (ma_cons (me_var (j := 7) (fun _ => rfl) fun _ => .inl rfl) ma_nil))))))
      ms_nil))
      (ms_cons (ms_setLcD (i := 8) c.toCxF (fun _ => rfl) (fun _ => rfl) (fun _ => rfl) (mi_range1 (fun _ => rfl) (fun _ => z_range) (me_ix c.toCxF (me_var (j := 0) (fun _ => rfl) fun _ => .inl rfl) me_int)) (own := [("_law_place", 6)]) (fun _ => blkOk_by rfl) (mg_name (k := 6) c.blk.nd (fun _ => rfl) fun _ => .inl rfl) (mts_one (mt_cmp (os_ne c.blk.toCxF) (me_ix c.blk.toCxF (me_var (j := 5) (fun _ => rfl) fun _ => .inr (.inl rfl)) (me_var (j := 6) (fun _ => rfl) fun _ => .inl rfl)) me_int)) (me_var (j := 6) (fun _ => rfl) fun _ => .inl rfl))
      (ms_cons (ms_if (mt_cmp (os_eq c.toCxF) (me_var (j := 8) (fun _ => rfl) fun _ => .inl rfl) (me_dead (mf_lst ma_nil))) (ms_cons (ms_ret (me_tup (ma_cons (me_var (j := 2) (fun _ => rfl) fun _ => .inl rfl) (ma_cons (me_tupleF c.toCxF (fun _ => rfl) (fun _ => z_tuple) (mf_sl c.toCxF (me_var (j := 5) (fun _ => rfl) fun _ => .inr (.inl rfl)) (mo_some (me_op (os_add c.toCxF) (me_ix c.toCxF (me_var (j := 0) (fun _ => rfl) fun _ => .inl rfl) me_int) me_int)) mo_none)) ma_nil))))
      ms_nil) ms_nil)
      (ms_cons (ms_set (k := 9) c.nd (fun _ => rfl) (fun _ => .inl rfl) (me_fn (fun _ => F1) c (fun _ => rfl) (fun _ => g1) (fun _ => k1) (fun _ => b1) (fun _ => p0) (ma_cons (me_ix c.toCxF (me_var (j := 0) (fun _ => rfl) fun _ => .inl rfl) me_int) (ma_cons (me_ix c.toCxF (me_var (j := 5) (fun _ => rfl) fun _ => .inr (.inl rfl)) (me_ix c.toCxF (me_var (j := 8) (fun _ => rfl) fun _ => .inl rfl) me_int)) ma_nil))))
      (ms_cons (ms_expr (me_chg ch_append PySem.F.slot_list_append PySem.F.type_list_append (me_var (j := 2) (fun _ => rfl) fun _ => .inl rfl) (ma_cons (me_tup (ma_cons (me_ix c.toCxF (me_var (j := 8) (fun _ => rfl) fun _ => .inl rfl) me_int) (ma_cons (me_fn (fun _ => F0) c (fun _ => rfl) (fun _ => g0) (fun _ => k0) (fun _ => b0) (fun _ => p0) (ma_cons (me_var (j := 0) (fun _ => rfl) fun _ => .inl rfl) (ma_cons (me_dead (mf_mul (me_dead (mf_lst (ma_cons me_int ma_nil))) (me_callB (x := "len") (cs_len c.toCxF) (fun _ => rfl) (fun _ => z_len) (by decide +kernel) (ma_cons (me_var (j := 5) (fun _ => rfl) fun _ => .inr (.inl rfl)) ma_nil)))) (ma_cons (me_var (j := 9) (fun _ => rfl) fun _ => .inl rfl) (ma_cons (me_var (j := 5) (fun _ => rfl) fun _ => .inr (.inl rfl)) ma_nil))))) ma_nil))) ma_nil) (c := c.toCxF)))
      ms_nil)))))))
      (ms_cons (ms_ret (me_tup (ma_cons (me_var (j := 2) (fun _ => rfl) fun _ => .inl rfl) (ma_cons me_non ma_nil))))
      ms_nil)))
theorem sc_law_given : FnScope ["_law_house_here", "_law_rows", "_law_sums_here", "_law_items", "_law_place", "_law_lead", "_law_back"] ["_law_house_here", "_law_rows", "_law_sums_here"] (defScope (topS 22)) := ⟨rfl, rfl, rfl, by decide +kernel, rfl, by decide +kernel, by decide +kernel⟩
theorem ok_law_given (N : Nat) (F : L2.Fun K "_law_given" "_law_given" (topS 22) f fd) (B : NoB mg) (h0 : Has P w K mg base 2 "_law_plus" ["_law_house_here", "_law_row", "_law_many", "_law_other"] 4 (m_law_plus N)) (h1 : Has P w K mg base 3 "_law_echelon" ["_law_house_here", "_law_rows"] 2 (m_law_echelon N)) : FnG P w K mg base CX0 4 f fd ["_law_house_here", "_law_rows", "_law_sums_here"] (spOf K 3 (m_law_given N)) := by
  have z_len := B.len_
  have z_list := B.list_
  have z_range := B.range_
  have z_tuple := B.tuple_
  obtain ⟨f0, d0, g0, k0, b0, F0⟩ := h0
  have F0 := F0.up (k := 3) (by decide)
  obtain ⟨f1, d1, g1, k1, b1, F1⟩ := h1
  have F1 := F1.up (k := 3) (by decide)
  refine fn_M (mb := b_law_given N) F sc_law_given rfl rfl fun cdv E => ?_
  have c : CxG (bX P w K mg base 3 ["_law_house_here", "_law_rows", "_law_sums_here", "_law_items", "_law_place", "_law_lead", "_law_back"] "_law_given" (defScope (topS 22)) f cdv E) K 3 := bX_cx sc_law_given
  exact (ms_cons (ms_set (k := 3) c.nd (fun _ => rfl) (fun _ => .inr rfl) (me_dead (mf_add (me_dead (mf_list c.toCxF (fun _ => rfl) (fun _ => z_list) (ma_cons (me_var (j := 2) (fun _ => rfl) fun _ => .inl rfl) ma_nil))) (me_dead (mf_mul (me_dead (mf_lst (ma_cons me_int ma_nil))) (me_op (os_add c.toCxF) me_int (me_callB (x := "len") (cs_len c.toCxF) (fun _ => rfl) (fun _ => z_len) (by decide +kernel) (ma_cons (me_var (j := 1) (fun _ => rfl) fun _ => .inl rfl) ma_nil))))))))
      (ms_cons (ms_for (fun _ => PassesOwn.never) c.toCxF (mi_seq c.toCxF (me_ix c.toCxF (me_fn (fun _ => F1) c (fun _ => rfl) (fun _ => g1) (fun _ => k1) (fun _ => b1) (fun _ => p0) (ma_cons (me_var (j := 0) (fun _ => rfl) fun _ => .inl rfl) (ma_cons (me_var (j := 1) (fun _ => rfl) fun _ => .inl rfl) ma_nil))) me_int)) (mg_tup (n := 2) c.toCxF (mg_cons (mg_name (k := 4) c.nd (fun _ => rfl) fun _ => .inl rfl) (mg_cons (mg_name (k := 5) c.nd (fun _ => rfl) fun _ => .inl rfl) mg_nil))) (ms_cons (ms_set (k := 3) c.nd (fun _ => rfl) (fun _ => .inr rfl) (me_fn (fun _ => F0) c (fun _ => rfl) (fun _ => g0) (fun _ => k0) (fun _ => b0) (fun _ => p0) (ma_cons (me_var (j := 0) (fun _ => rfl) fun _ => .inl rfl) (ma_cons (me_var (j := 3) (fun _ => rfl) fun _ => .inr (.inl rfl)) (ma_cons (me_neg (me_ix c.toCxF (me_var (j := 3) (fun _ => rfl) fun _ => .inr (.inl rfl)) (me_var (j := 4) (fun _ => rfl) fun _ => .inl rfl))) (ma_cons (me_var (j := 5) (fun _ => rfl) fun _ => .inl rfl) ma_nil))))))
      ms_nil))
      (ms_cons (ms_if (mt_cmp (os_ne c.toCxF) (me_dead (mf_comp c.toCxF (mi_range1 (fun _ => rfl) (fun _ => z_range) (me_ix c.toCxF (me_var (j := 0) (fun _ => rfl) fun _ => .inl rfl) me_int)) (own := [("_law_place", 4)]) (fun _ => blkOk_by rfl) (mg_name (k := 4) c.blk.nd (fun _ => rfl) fun _ => .inl rfl) (mts_one (mt_cmp (os_ne c.blk.toCxF) (me_ix c.blk.toCxF (me_var (j := 3) (fun _ => rfl) fun _ => .inr (.inl rfl)) (me_var (j := 4) (fun _ => rfl) fun _ => .inl rfl)) me_int)) (me_var (j := 4) (fun _ => rfl) fun _ => .inl rfl))) (me_dead (mf_lst ma_nil))) (ms_cons (ms_ret me_non)
      ms_nil) ms_nil)
      (ms_cons (ms_set (k := 6) c.nd (fun _ => rfl) (fun _ => .inl rfl) (me_fn (fun _ => F0) c (fun _ => rfl) (fun _ => g0) (fun _ => k0) (fun _ => b0) (fun _ => p0) (ma_cons (me_var (j := 0) (fun _ => rfl) fun _ => .inl rfl) (ma_cons (me_dead (mf_mul (me_dead (mf_lst (ma_cons me_int ma_nil))) (me_op (os_add c.toCxF) me_int (me_callB (x := "len") (cs_len c.toCxF) (fun _ => rfl) (fun _ => z_len) (by decide +kernel) (ma_cons (me_var (j := 1) (fun _ => rfl) fun _ => .inl rfl) ma_nil))))) (ma_cons (me_neg me_int) (ma_cons (me_dead (mf_sl c.toCxF (me_var (j := 3) (fun _ => rfl) fun _ => .inr (.inl rfl)) (mo_some (me_ix c.toCxF (me_var (j := 0) (fun _ => rfl) fun _ => .inl rfl) me_int)) mo_none)) ma_nil))))))
      (ms_cons (ms_ret (me_tup (ma_cons (me_ix c.toCxF (me_var (j := 6) (fun _ => rfl) fun _ => .inl rfl) me_int) (ma_cons (me_tupleF c.toCxF (fun _ => rfl) (fun _ => z_tuple) (mf_sl c.toCxF (me_var (j := 6) (fun _ => rfl) fun _ => .inl rfl) (mo_some me_int) mo_none)) ma_nil))))
      ms_nil)))))
theorem sc_law_answer : FnScope ["_law_house_here", "_law_rows", "_law_deed_here", "_law_given_here"] ["_law_house_here", "_law_rows", "_law_deed_here"] (defScope (topS 24)) := ⟨rfl, rfl, rfl, by decide +kernel, rfl, by decide +kernel, by decide +kernel⟩
theorem ok_law_answer (N : Nat) (F : L2.Fun K "_law_answer" "_law_answer" (topS 24) f fd) (B : NoB mg) (h0 : Has P w K mg base 4 "_law_given" ["_law_house_here", "_law_rows", "_law_sums_here"] 3 (m_law_given N)) : FnG P w K mg base CX0 5 f fd ["_law_house_here", "_law_rows", "_law_deed_here"] (spOf K 3 (m_law_answer N)) := by
  obtain ⟨f0, d0, g0, k0, b0, F0⟩ := h0
  have F0 := F0.up (k := 4) (by decide)
  refine fn_M (mb := b_law_answer N) F sc_law_answer rfl rfl fun cdv E => ?_
  have c : CxG (bX P w K mg base 4 ["_law_house_here", "_law_rows", "_law_deed_here", "_law_given_here"] "_law_answer" (defScope (topS 24)) f cdv E) K 4 := bX_cx sc_law_answer
  exact (ms_cons (ms_set (k := 3) c.nd (fun _ => rfl) (fun _ => .inl rfl) (me_fn (fun _ => F0) c (fun _ => rfl) (fun _ => g0) (fun _ => k0) (fun _ => b0) (fun _ => p0) (ma_cons (me_var (j := 0) (fun _ => rfl) fun _ => .inl rfl) (ma_cons (me_var (j := 1) (fun _ => rfl) fun _ => .inl rfl) (ma_cons (me_ix c.toCxF (me_var (j := 2) (fun _ => rfl) fun _ => .inl rfl) me_int) ma_nil)))))
      (ms_cons (ms_if (mt_cmp (os_eq c.toCxF) (me_ix c.toCxF (me_var (j := 2) (fun _ => rfl) fun _ => .inl rfl) me_int) me_str) (ms_cons (ms_ret (me_if (mt_isN (me_var (j := 3) (fun _ => rfl) fun _ => .inl rfl)) me_str (me_ix c.toCxF (me_var (j := 3) (fun _ => rfl) fun _ => .inl rfl) me_int)))
      ms_nil) ms_nil)
      (ms_cons (ms_if (mt_isN (me_var (j := 3) (fun _ => rfl) fun _ => .inl rfl)) (ms_cons (ms_ret me_str)
      ms_nil) ms_nil)
      (ms_cons (ms_ret (me_if (mt_cmp (os_eq c.toCxF) (me_ix c.toCxF (me_var (j := 3) (fun _ => rfl) fun _ => .inl rfl) me_int) (me_ix c.toCxF (me_var (j := 2) (fun _ => rfl) fun _ => .inl rfl) me_int)) me_str me_str))
      ms_nil))))
theorem sc_law_answers_by : FnScope ["_law_house_here", "_law_deeds", "_law_rows", "_law_found", "_law_deed_here", "_law_answer_here"] ["_law_house_here", "_law_deeds"] (defScope (topS 25)) := ⟨rfl, rfl, rfl, by decide +kernel, rfl, by decide +kernel, by decide +kernel⟩
theorem ok_law_answers_by (N : Nat) (F : L2.Fun K "_law_answers_by" "_law_answers_by" (topS 25) f fd) (B : NoB mg) (h0 : Has P w K mg base 5 "_law_answer" ["_law_house_here", "_law_rows", "_law_deed_here"] 3 (m_law_answer N)) : FnG P w K mg base CX0 6 f fd ["_law_house_here", "_law_deeds"] (spOf K 2 (m_law_answers_by N)) := by
  obtain ⟨f0, d0, g0, k0, b0, F0⟩ := h0
  have F0 := F0.up (k := 5) (by decide)
  refine fn_M (mb := b_law_answers_by N) F sc_law_answers_by rfl rfl fun cdv E => ?_
  have c : CxG (bX P w K mg base 5 ["_law_house_here", "_law_deeds", "_law_rows", "_law_found", "_law_deed_here", "_law_answer_here"] "_law_answers_by" (defScope (topS 25)) f cdv E) K 5 := bX_cx sc_law_answers_by
  exact (ms_cons (ms_par (k := 2) (l := 3) c.calm c.nd (fun _ => rfl) (fun _ => rfl) (by decide) (fun _ => rfl) (fun _ => rfl) (me_live (mf_lst ma_nil)) (me_live (mf_lst ma_nil)) (fun _ => rfl))
      (ms_cons (ms_for (fun _ => PassesOwn.never) c.toCxF (mi_seq c.toCxF (me_var (j := 1) (fun _ => rfl) fun _ => .inl rfl)) (mg_name (k := 4) c.nd (fun _ => rfl) fun _ => .inl rfl) (ms_cons (ms_set (k := 5) c.nd (fun _ => rfl) (fun _ => .inl rfl) (me_fn (fun _ => F0) c (fun _ => rfl) (fun _ => g0) (fun _ => k0) (fun _ => b0) (fun _ => p0) (ma_cons (me_var (j := 0) (fun _ => rfl) fun _ => .inl rfl) (ma_cons (me_var (j := 2) (fun _ => rfl) fun _ => .inl rfl) (ma_cons (me_var (j := 4) (fun _ => rfl) fun _ => .inl rfl) ma_nil)))))
      (ms_cons (ms_if (mt_cmp (os_eq c.toCxF) (me_var (j := 5) (fun _ => rfl) fun _ => .inl rfl) me_str) (ms_cons (ms_expr (me_chg ch_append PySem.F.slot_list_append PySem.F.type_list_append (me_var (j := 2) (fun _ => rfl) fun _ => .inl rfl) (ma_cons (me_tup (ma_cons (me_ix c.toCxF (me_var (j := 4) (fun _ => rfl) fun _ => .inl rfl) me_int) (ma_cons (me_ix c.toCxF (me_var (j := 4) (fun _ => rfl) fun _ => .inl rfl) me_int) ma_nil))) ma_nil) (c := c.toCxF)))
      ms_nil) ms_nil)
      (ms_cons (ms_expr (me_chg ch_append PySem.F.slot_list_append PySem.F.type_list_append (me_var (j := 3) (fun _ => rfl) fun _ => .inl rfl) (ma_cons (me_var (j := 5) (fun _ => rfl) fun _ => .inl rfl) ma_nil) (c := c.toCxF)))
      ms_nil))))
      (ms_cons (ms_ret (me_var (j := 3) (fun _ => rfl) fun _ => .inl rfl))
      ms_nil)))
theorem sc_law_deed : FnScope ["_law_bag_here", "_law_house_here", "_law_sums_here", "_law_world_here", "_law_some", "_law_number"] ["_law_bag_here", "_law_house_here", "_law_sums_here", "_law_world_here"] (defScope (topS 29)) := ⟨rfl, rfl, rfl, by decide +kernel, rfl, by decide +kernel, by decide +kernel⟩
theorem ok_law_deed (N : Nat) (F : L2.Fun K "_law_deed" "_law_deed" (topS 29) f fd) (B : NoB mg) (h0 : Has P w K mg base 1 "_law_take" ["_law_bag_here", "_law_many"] 2 (m_law_take N)) (h1 : Has P w K mg base 2 "_law_comes_to" ["_law_house_here", "_law_world_here", "_law_sums_here"] 3 (m_law_comes_to N)) (h2 : Has P w K mg base 2 "_law_one" ["_law_bag_here", "_law_things"] 2 (m_law_one N)) : FnG P w K mg base CX0 3 f fd ["_law_bag_here", "_law_house_here", "_law_sums_here", "_law_world_here"] (spOf K 4 (m_law_deed N)) := by
  obtain ⟨f0, d0, g0, k0, b0, F0⟩ := h0
  have F0 := F0.up (k := 2) (by decide)
  obtain ⟨f1, d1, g1, k1, b1, F1⟩ := h1
  have F1 := F1.up (k := 2) (by decide)
  obtain ⟨f2, d2, g2, k2, b2, F2⟩ := h2
  have F2 := F2.up (k := 2) (by decide)
  refine fn_M (mb := b_law_deed N) F sc_law_deed rfl rfl fun cdv E => ?_
  have c : CxG (bX P w K mg base 2 ["_law_bag_here", "_law_house_here", "_law_sums_here", "_law_world_here", "_law_some", "_law_number"] "_law_deed" (defScope (topS 29)) f cdv E) K 2 := bX_cx sc_law_deed
  exact (ms_cons (ms_set (k := 4) c.nd (fun _ => rfl) (fun _ => .inl rfl) (me_fn (fun _ => F2) c (fun _ => rfl) (fun _ => g2) (fun _ => k2) (fun _ => b2) (fun _ => p0) (ma_cons (me_var (j := 0) (fun _ => rfl) fun _ => .inl rfl) (ma_cons (me_var (j := 2) (fun _ => rfl) fun _ => .inl rfl) ma_nil))))
      (ms_cons (ms_if (mt_cmp os_lt (me_fn (fun _ => F0) c (fun _ => rfl) (fun _ => g0) (fun _ => k0) (fun _ => b0) (fun _ => p0) (ma_cons (me_var (j := 0) (fun _ => rfl) fun _ => .inl rfl) (ma_cons me_int ma_nil))) me_int) (ms_cons (ms_ret (me_tup (ma_cons me_str (ma_cons (me_var (j := 4) (fun _ => rfl) fun _ => .inl rfl) ma_nil))))
      ms_nil) ms_nil)
      (ms_cons (ms_set (k := 5) c.nd (fun _ => rfl) (fun _ => .inl rfl) (me_fn (fun _ => F1) c (fun _ => rfl) (fun _ => g1) (fun _ => k1) (fun _ => b1) (fun _ => p0) (ma_cons (me_var (j := 1) (fun _ => rfl) fun _ => .inl rfl) (ma_cons (me_var (j := 3) (fun _ => rfl) fun _ => .inl rfl) (ma_cons (me_var (j := 4) (fun _ => rfl) fun _ => .inl rfl) ma_nil)))))
      (ms_cons (ms_ret (me_tup (ma_cons me_str (ma_cons (me_var (j := 4) (fun _ => rfl) fun _ => .inl rfl) (ma_cons (me_if (mt_cmp (os_eq c.toCxF) (me_fn (fun _ => F0) c (fun _ => rfl) (fun _ => g0) (fun _ => k0) (fun _ => b0) (fun _ => p0) (ma_cons (me_var (j := 0) (fun _ => rfl) fun _ => .inl rfl) (ma_cons me_int ma_nil))) me_int) (me_fn (fun _ => F0) c (fun _ => rfl) (fun _ => g0) (fun _ => k0) (fun _ => b0) (fun _ => p0) (ma_cons (me_var (j := 0) (fun _ => rfl) fun _ => .inl rfl) (ma_cons (me_ix c.toCxF (me_var (j := 1) (fun _ => rfl) fun _ => .inl rfl) me_int) ma_nil))) (me_var (j := 5) (fun _ => rfl) fun _ => .inl rfl)) ma_nil)))))
      ms_nil))))
theorem sc_law_history : FnScope ["_law_bag_here", "_law_house_here", "_law_most", "_law_many", "_law_world_here", "_law_sums_here", "_law_deeds", "_law_answers", "_law_way", "_law_places", "_law_calls", "_law_place", "_law_begin", "_law_end", "_law_turn"] ["_law_bag_here", "_law_house_here", "_law_most"] (defScope (topS 32)) := ⟨rfl, rfl, rfl, by decide +kernel, rfl, by decide +kernel, by decide +kernel⟩
theorem ok_law_history (N : Nat) (F : L2.Fun K "_law_history" "_law_history" (topS 32) f fd) (B : NoB mg) (h0 : Has P w K mg base 1 "_law_take" ["_law_bag_here", "_law_many"] 2 (m_law_take N)) (h1 : Has P w K mg base 3 "_law_stretch" ["_law_bag_here", "_law_moment", "_law_way"] 3 (m_law_stretch N)) (h2 : Has P w K mg base 2 "_law_mixed" ["_law_bag_here", "_law_things"] 2 (m_law_mixed N)) (h3 : Has P w K mg base 6 "_law_answers_by" ["_law_house_here", "_law_deeds"] 2 (m_law_answers_by N)) (h4 : Has P w K mg base 2 "_law_one" ["_law_bag_here", "_law_things"] 2 (m_law_one N)) (h5 : Has P w K mg base 3 "_law_deed" ["_law_bag_here", "_law_house_here", "_law_sums_here", "_law_world_here"] 4 (m_law_deed N)) (h6 : Has P w K mg base 4 "_law_sums" ["_law_bag_here", "_law_house_here", "_law_many"] 3 (m_law_sums N)) (h7 : Has P w K mg base 2 "_law_world" ["_law_bag_here", "_law_house_here"] 2 (m_law_world N)) : FnG P w K mg base CX0 7 f fd ["_law_bag_here", "_law_house_here", "_law_most"] (spOf K 3 (m_law_history N)) := by
  have z_list := B.list_
  have z_range := B.range_
  have z_tuple := B.tuple_
  obtain ⟨f0, d0, g0, k0, b0, F0⟩ := h0
  have F0 := F0.up (k := 6) (by decide)
  obtain ⟨f1, d1, g1, k1, b1, F1⟩ := h1
  have F1 := F1.up (k := 6) (by decide)
  obtain ⟨f2, d2, g2, k2, b2, F2⟩ := h2
  have F2 := F2.up (k := 6) (by decide)
  obtain ⟨f3, d3, g3, k3, b3, F3⟩ := h3
  have F3 := F3.up (k := 6) (by decide)
  obtain ⟨f4, d4, g4, k4, b4, F4⟩ := h4
  have F4 := F4.up (k := 6) (by decide)
  obtain ⟨f5, d5, g5, k5, b5, F5⟩ := h5
  have F5 := F5.up (k := 6) (by decide)
  obtain ⟨f6, d6, g6, k6, b6, F6⟩ := h6
  have F6 := F6.up (k := 6) (by decide)
  obtain ⟨f7, d7, g7, k7, b7, F7⟩ := h7
  have F7 := F7.up (k := 6) (by decide)
  refine fn_M (mb := b_law_history N) F sc_law_history rfl rfl fun cdv E => ?_
  have c : CxG (bX P w K mg base 6 ["_law_bag_here", "_law_house_here", "_law_most", "_law_many", "_law_world_here", "_law_sums_here", "_law_deeds", "_law_answers", "_law_way", "_law_places", "_law_calls", "_law_place", "_law_begin", "_law_end", "_law_turn"] "_law_history" (defScope (topS 32)) f cdv E) K 6 := bX_cx sc_law_history
  exact (ms_cons (ms_asg (me_tup (ma_cons (me_fn (fun _ => F4) c (fun _ => rfl) (fun _ => g4) (fun _ => k4) (fun _ => b4) (fun _ => p0) (ma_cons (me_var (j := 0) (fun _ => rfl) fun _ => .inr (.inl rfl)) (ma_cons (me_dead (mf_lst (ma_cons (me_var (j := 2) (fun _ => rfl) fun _ => .inl rfl) (ma_cons (me_var (j := 2) (fun _ => rfl) fun _ => .inl rfl) (ma_cons (me_op os_sub (me_var (j := 2) (fun _ => rfl) fun _ => .inl rfl) me_int) (ma_cons (me_op os_div (me_var (j := 2) (fun _ => rfl) fun _ => .inl rfl) me_int) (ma_cons (me_fn (fun _ => F0) c (fun _ => rfl) (fun _ => g0) (fun _ => k0) (fun _ => b0) (fun _ => p0) (ma_cons (me_var (j := 0) (fun _ => rfl) fun _ => .inr (.inl rfl)) (ma_cons (me_op (os_add c.toCxF) (me_var (j := 2) (fun _ => rfl) fun _ => .inl rfl) me_int) ma_nil))) ma_nil))))))) ma_nil))) (ma_cons (me_fn (fun _ => F7) c (fun _ => rfl) (fun _ => g7) (fun _ => k7) (fun _ => b7) (fun _ => p0) (ma_cons (me_var (j := 0) (fun _ => rfl) fun _ => .inr (.inl rfl)) (ma_cons (me_var (j := 1) (fun _ => rfl) fun _ => .inr (.inl rfl)) ma_nil))) ma_nil))) (mg_tup (n := 2) c.toCxF (mg_cons (mg_name (k := 3) c.nd (fun _ => rfl) fun _ => .inl rfl) (mg_cons (mg_name (k := 4) c.nd (fun _ => rfl) fun _ => .inr rfl) mg_nil))))
      (ms_cons (ms_set (k := 5) c.nd (fun _ => rfl) (fun _ => .inr rfl) (me_fn (fun _ => F6) c (fun _ => rfl) (fun _ => g6) (fun _ => k6) (fun _ => b6) (fun _ => p0) (ma_cons (me_var (j := 0) (fun _ => rfl) fun _ => .inr (.inl rfl)) (ma_cons (me_var (j := 1) (fun _ => rfl) fun _ => .inr (.inl rfl)) (ma_cons (me_fn (fun _ => F4) c (fun _ => rfl) (fun _ => g4) (fun _ => k4) (fun _ => b4) (fun _ => p0) (ma_cons (me_var (j := 0) (fun _ => rfl) fun _ => .inr (.inl rfl)) (ma_cons (me_dead (mf_lst (ma_cons me_int (ma_cons me_int (ma_cons me_int (ma_cons me_int ma_nil)))))) ma_nil))) ma_nil)))))
      (ms_cons (ms_setLcD (i := 6) c.toCxF (fun _ => rfl) (fun _ => rfl) (fun _ => rfl) (mi_range1 (fun _ => rfl) (fun _ => z_range) (me_var (j := 3) (fun _ => rfl) fun _ => .inl rfl)) (own := [("_law_turn", 14)]) (fun _ => blkOk_by rfl) (mg_name (k := 14) c.blk.nd (fun _ => rfl) fun _ => .inl rfl) mts_nil (me_fn (fun _ => F5) c.blk (fun _ => rfl) (fun _ => g5) (fun _ => k5) (fun _ => b5) (fun _ => p0) (ma_cons (me_var (j := 0) (fun _ => rfl) fun _ => .inr (.inl rfl)) (ma_cons (me_var (j := 1) (fun _ => rfl) fun _ => .inr (.inl rfl)) (ma_cons (me_var (j := 5) (fun _ => rfl) fun _ => .inr (.inl rfl)) (ma_cons (me_var (j := 4) (fun _ => rfl) fun _ => .inr (.inl rfl)) ma_nil))))))
      (ms_cons (ms_par (k := 7) (l := 8) c.calm c.nd (fun _ => rfl) (fun _ => rfl) (by decide) (fun _ => rfl) (fun _ => rfl) (me_fn (fun _ => F3) c (fun _ => rfl) (fun _ => g3) (fun _ => k3) (fun _ => b3) (fun _ => p0) (ma_cons (me_var (j := 1) (fun _ => rfl) fun _ => .inr (.inl rfl)) (ma_cons (me_var (j := 6) (fun _ => rfl) fun _ => .inl rfl) ma_nil))) (me_fn (fun _ => F4) c (fun _ => rfl) (fun _ => g4) (fun _ => k4) (fun _ => b4) (fun _ => p0) (ma_cons (me_var (j := 0) (fun _ => rfl) fun _ => .inr (.inl rfl)) (ma_cons (me_dead (mf_lst (ma_cons me_int (ma_cons me_int (ma_cons me_int (ma_cons me_int (ma_cons me_int (ma_cons me_int ma_nil)))))))) ma_nil))) (fun _ => rfl))
      (ms_cons (ms_set (k := 9) c.nd (fun _ => rfl) (fun _ => .inr rfl) (me_fn (fun _ => F2) c (fun _ => rfl) (fun _ => g2) (fun _ => k2) (fun _ => b2) (fun _ => p0) (ma_cons (me_var (j := 0) (fun _ => rfl) fun _ => .inr (.inl rfl)) (ma_cons (me_dead (mf_range c.toCxF (fun _ => rfl) (fun _ => z_list) (fun _ => rfl) (fun _ => z_range) (me_var (j := 3) (fun _ => rfl) fun _ => .inl rfl))) ma_nil))))
      (ms_cons (ms_set (k := 10) c.nd (fun _ => rfl) (fun _ => .inl rfl) (me_live (mf_lst ma_nil)))
      (ms_cons (ms_for (fun _ => PassesOwn.never) c.toCxF (mi_seq c.toCxF (me_var (j := 9) (fun _ => rfl) fun _ => .inr (.inl rfl))) (mg_name (k := 11) c.nd (fun _ => rfl) fun _ => .inl rfl) (ms_cons (ms_asg (me_fn (fun _ => F1) c (fun _ => rfl) (fun _ => g1) (fun _ => k1) (fun _ => b1) (fun _ => p0) (ma_cons (me_var (j := 0) (fun _ => rfl) fun _ => .inr (.inl rfl)) (ma_cons (me_op os_mul me_int (me_var (j := 11) (fun _ => rfl) fun _ => .inl rfl)) (ma_cons (me_if (mt_cmp os_gt (me_fn (fun _ => F0) c (fun _ => rfl) (fun _ => g0) (fun _ => k0) (fun _ => b0) (fun _ => p0) (ma_cons (me_var (j := 0) (fun _ => rfl) fun _ => .inr (.inl rfl)) (ma_cons me_int ma_nil))) me_int) (me_var (j := 8) (fun _ => rfl) fun _ => .inl rfl) (me_fn (fun _ => F0) c (fun _ => rfl) (fun _ => g0) (fun _ => k0) (fun _ => b0) (fun _ => p0) (ma_cons (me_var (j := 0) (fun _ => rfl) fun _ => .inr (.inl rfl)) (ma_cons me_int ma_nil)))) ma_nil)))) (mg_tup (n := 2) c.toCxF (mg_cons (mg_name (k := 12) c.nd (fun _ => rfl) fun _ => .inl rfl) (mg_cons (mg_name (k := 13) c.nd (fun _ => rfl) fun _ => .inl rfl) mg_nil))))
      (ms_cons (ms_expr (me_chg ch_append PySem.F.slot_list_append PySem.F.type_list_append (me_var (j := 10) (fun _ => rfl) fun _ => .inl rfl) (ma_cons (me_tup (ma_cons (me_ix c.toCxF (me_var (j := 6) (fun _ => rfl) fun _ => .inl rfl) (me_var (j := 11) (fun _ => rfl) fun _ => .inl rfl)) (ma_cons (me_var (j := 12) (fun _ => rfl) fun _ => .inl rfl) (ma_cons (me_var (j := 13) (fun _ => rfl) fun _ => .inl rfl) (ma_cons (me_ix c.toCxF (me_var (j := 7) (fun _ => rfl) fun _ => .inl rfl) (me_var (j := 11) (fun _ => rfl) fun _ => .inl rfl)) ma_nil))))) ma_nil) (c := c.toCxF)))
      ms_nil)))
      (ms_cons (ms_ret (me_tup (ma_cons (me_tup (ma_cons (me_var (j := 1) (fun _ => rfl) fun _ => .inr (.inl rfl)) (ma_cons (me_callTy (x := "tuple") (cs_tuple c.toCxF) (fun _ => rfl) (fun _ => z_tuple) (by decide +kernel) (ma_cons (me_var (j := 10) (fun _ => rfl) fun _ => .inl rfl) ma_nil)) ma_nil))) (ma_cons (me_tupleF c.toCxF (fun _ => rfl) (fun _ => z_tuple) (mf_comp c.toCxF (mi_range1 (fun _ => rfl) (fun _ => z_range) (me_var (j := 3) (fun _ => rfl) fun _ => .inl rfl)) (own := [("_law_place", 11)]) (fun _ => blkOk_by rfl) (mg_name (k := 11) c.blk.nd (fun _ => rfl) fun _ => .inl rfl) mts_nil (me_idxL (me_var (j := 9) (fun _ => rfl) fun _ => .inr (.inl rfl)) (ma_cons (me_var (j := 11) (fun _ => rfl) fun _ => .inl rfl) ma_nil) (c := c.blk.toCxF)))) ma_nil))))
      ms_nil))))))))
theorem sc_law_some_history : FnScope ["_law_bag_here", "_law_house_here", "_law_most", "_law_history_here", "_law_turn"] ["_law_bag_here", "_law_house_here", "_law_most"] (defScope (topS 36)) := ⟨rfl, rfl, rfl, by decide +kernel, rfl, by decide +kernel, by decide +kernel⟩
theorem ok_law_some_history (N : Nat) (F : L2.Fun K "_law_some_history" "_law_some_history" (topS 36) f fd) (B : NoB mg) (h0 : Has P w K mg base 2 "_law_one" ["_law_bag_here", "_law_things"] 2 (m_law_one N)) (h1 : Has P w K mg base 4 "_law_bent_history" ["_law_bag_here", "_law_history_here"] 2 (m_law_bent_history N)) (h2 : Has P w K mg base 7 "_law_history" ["_law_bag_here", "_law_house_here", "_law_most"] 3 (m_law_history N)) : FnG P w K mg base CX0 8 f fd ["_law_bag_here", "_law_house_here", "_law_most"] (spOf K 3 (m_law_some_history N)) := by
  have z_range := B.range_
  obtain ⟨f0, d0, g0, k0, b0, F0⟩ := h0
  have F0 := F0.up (k := 7) (by decide)
  obtain ⟨f1, d1, g1, k1, b1, F1⟩ := h1
  have F1 := F1.up (k := 7) (by decide)
  obtain ⟨f2, d2, g2, k2, b2, F2⟩ := h2
  have F2 := F2.up (k := 7) (by decide)
  refine fn_M (mb := b_law_some_history N) F sc_law_some_history rfl rfl fun cdv E => ?_
  have c : CxG (bX P w K mg base 7 ["_law_bag_here", "_law_house_here", "_law_most", "_law_history_here", "_law_turn"] "_law_some_history" (defScope (topS 36)) f cdv E) K 7 := bX_cx sc_law_some_history
  exact (ms_cons (ms_set (k := 3) c.nd (fun _ => rfl) (fun _ => .inl rfl) (me_ix c.toCxF (me_fn (fun _ => F2) c (fun _ => rfl) (fun _ => g2) (fun _ => k2) (fun _ => b2) (fun _ => p0) (ma_cons (me_var (j := 0) (fun _ => rfl) fun _ => .inl rfl) (ma_cons (me_var (j := 1) (fun _ => rfl) fun _ => .inl rfl) (ma_cons (me_var (j := 2) (fun _ => rfl) fun _ => .inl rfl) ma_nil)))) me_int))
      (ms_cons (ms_for (fun _ => PassesOwn.never) c.toCxF (mi_range1 (fun _ => rfl) (fun _ => z_range) (me_fn (fun _ => F0) c (fun _ => rfl) (fun _ => g0) (fun _ => k0) (fun _ => b0) (fun _ => p0) (ma_cons (me_var (j := 0) (fun _ => rfl) fun _ => .inl rfl) (ma_cons (me_dead (mf_lst (ma_cons me_int (ma_cons me_int (ma_cons me_int (ma_cons me_int (ma_cons me_int ma_nil))))))) ma_nil)))) (mg_name (k := 4) c.nd (fun _ => rfl) fun _ => .inl rfl) (ms_cons (ms_set (k := 3) c.nd (fun _ => rfl) (fun _ => .inl rfl) (me_fn (fun _ => F1) c (fun _ => rfl) (fun _ => g1) (fun _ => k1) (fun _ => b1) (fun _ => p0) (ma_cons (me_var (j := 0) (fun _ => rfl) fun _ => .inl rfl) (ma_cons (me_var (j := 3) (fun _ => rfl) fun _ => .inl rfl) ma_nil))))
      ms_nil))
      (ms_cons (ms_ret (me_var (j := 3) (fun _ => rfl) fun _ => .inl rfl))
      ms_nil)))
theorem sc_law_house : FnScope ["_law_bag_here", "_law_most", "_law_menu"] ["_law_bag_here", "_law_most"] (defScope (topS 26)) := ⟨rfl, rfl, rfl, by decide +kernel, rfl, by decide +kernel, by decide +kernel⟩
theorem ok_law_house (N : Nat) (F : L2.Fun K "_law_house" "_law_house" (topS 26) f fd) (B : NoB mg) (h0 : Has P w K mg base 2 "_law_one" ["_law_bag_here", "_law_things"] 2 (m_law_one N)) : FnG P w K mg base CX0 3 f fd ["_law_bag_here", "_law_most"] (spOf K 2 (m_law_house N)) := by
  have z_list := B.list_
  have z_range := B.range_
  obtain ⟨f0, d0, g0, k0, b0, F0⟩ := h0
  have F0 := F0.up (k := 2) (by decide)
  refine fn_M (mb := b_law_house N) F sc_law_house rfl rfl fun cdv E => ?_
  have c : CxG (bX P w K mg base 2 ["_law_bag_here", "_law_most", "_law_menu"] "_law_house" (defScope (topS 26)) f cdv E) K 2 := bX_cx sc_law_house
  exact (ms_cons (ms_set (k := 2) c.nd (fun _ => rfl) (fun _ => .inl rfl) (me_if (mt_cmp os_ge (me_var (j := 1) (fun _ => rfl) fun _ => .inl rfl) me_int) (me_dead (mf_lst (ma_cons (me_var (j := 1) (fun _ => rfl) fun _ => .inl rfl) (ma_cons me_int (ma_cons me_int (ma_cons me_int (ma_cons (me_var (j := 1) (fun _ => rfl) fun _ => .inl rfl) (ma_cons me_int ma_nil)))))))) (me_dead (mf_range c.toCxF (fun _ => rfl) (fun _ => z_list) (fun _ => rfl) (fun _ => z_range) (me_op (os_add c.toCxF) (me_var (j := 1) (fun _ => rfl) fun _ => .inl rfl) me_int)))))
      (ms_cons (ms_ret (me_tup (ma_cons (me_fn (fun _ => F0) c (fun _ => rfl) (fun _ => g0) (fun _ => k0) (fun _ => b0) (fun _ => p0) (ma_cons (me_var (j := 0) (fun _ => rfl) fun _ => .inl rfl) (ma_cons (me_dead (mf_lst (ma_cons me_int (ma_cons me_int (ma_cons me_int (ma_cons me_int (ma_cons me_int ma_nil))))))) ma_nil))) (ma_cons (me_fn (fun _ => F0) c (fun _ => rfl) (fun _ => g0) (fun _ => k0) (fun _ => b0) (fun _ => p0) (ma_cons (me_var (j := 0) (fun _ => rfl) fun _ => .inl rfl) (ma_cons (me_var (j := 2) (fun _ => rfl) fun _ => .inl rfl) ma_nil))) ma_nil))))
      ms_nil))
theorem sc_law_bag : FnScope ["_law_script", "_law_cell"] ["_law_script"] (defScope (topS 11)) := ⟨rfl, rfl, rfl, by decide +kernel, rfl, by decide +kernel, by decide +kernel⟩
theorem ok_law_bag (N : Nat) (F : L2.Fun K "_law_bag" "_law_bag" (topS 11) f fd) (B : NoB mg)  : FnG P w K mg base CX0 1 f fd ["_law_script"] (spOf K 1 (m_law_bag N)) := by
  have z_abs := B.abs_
  refine fn_M (mb := b_law_bag N) F sc_law_bag rfl rfl fun cdv E => ?_
  have c : CxG (bX P w K mg base 0 ["_law_script", "_law_cell"] "_law_bag" (defScope (topS 11)) f cdv E) K 0 := bX_cx sc_law_bag
  exact (ms_cons (ms_ret (me_live (mf_lst (ma_cons me_int (ma_cons me_int (ma_cons me_int (ma_cons (me_dead (mf_comp c.toCxF (mi_seq c.toCxF (me_dead (mf_sl c.toCxF (me_var (j := 0) (fun _ => rfl) fun _ => .inl rfl) mo_none (mo_some me_int)))) (own := [("_law_cell", 1)]) (fun _ => blkOk_by rfl) (mg_name (k := 1) c.blk.nd (fun _ => rfl) fun _ => .inl rfl) mts_nil (me_callB (x := "abs") (cs_abs) (fun _ => rfl) (fun _ => z_abs) (by decide +kernel) (ma_cons (me_var (j := 1) (fun _ => rfl) fun _ => .inl rfl) ma_nil)))) ma_nil)))))))
      ms_nil)
theorem sc_law : FnScope ["_law_script", "_law_bag_here", "_law_turn", "_law_house_here", "_law_history_here", "_law_plan_here", "_law_what", "_law_calls", "_law_shown", "_law_index", "_law_others", "_law_ahead", "_law_late", "_law_due", "_law_lot", "_law_rest_here", "_law_told", "_law_other", "_law_order"] ["_law_script"] (defScope (topS 42)) := ⟨rfl, rfl, rfl, by decide +kernel, rfl, by decide +kernel, by decide +kernel⟩
theorem ok_law (N : Nat) (F : L2.Fun K "law" "law" (topS 42) f fd) (B : NoB mg) (h0 : Has P w K mg base 3 "_law_far" ["_law_bag_here", "_law_what"] 2 (m_law_far N)) (h1 : Has P w K mg base 2 "_law_mixed" ["_law_bag_here", "_law_things"] 2 (m_law_mixed N)) (h2 : Has P w K mg base 2 "_law_is_order" ["_law_calls", "_law_thing"] 2 (m_law_is_order N)) (h3 : Has P w K mg base 1 "_law_alike" ["_law_found", "_law_due"] 2 (m_law_alike N)) (h4 : Has P w K mg base 6 "late_order" ["what", "index"] 2 (m_late_order N)) (h5 : Has P w K mg base 6 "early_order" ["what", "index"] 2 (m_early_order N)) (h6 : Has P w K mg base 1 "_law_by_begins" ["_law_calls", "_law_lot"] 2 (m_law_by_begins N)) (h7 : Has P w K mg base 1 "_law_is_ahead" ["_law_calls", "_law_one_here", "_law_other"] 3 (m_law_is_ahead N)) (h8 : Has P w K mg base 2 "_law_one" ["_law_bag_here", "_law_things"] 2 (m_law_one N)) (h9 : Has P w K mg base 5 "_law_plan" ["_law_bag_here", "_law_house_here", "_law_most"] 3 (m_law_plan N)) (h10 : Has P w K mg base 8 "_law_some_history" ["_law_bag_here", "_law_house_here", "_law_most"] 3 (m_law_some_history N)) (h11 : Has P w K mg base 3 "_law_house" ["_law_bag_here", "_law_most"] 2 (m_law_house N)) (h12 : Has P w K mg base 1 "_law_bag" ["_law_script"] 1 (m_law_bag N)) : FnG P w K mg base CX0 9 f fd ["_law_script"] (spOf K 1 (m_law N)) := by
  have z_len := B.len_
  have z_list := B.list_
  have z_range := B.range_
  have z_repr := B.repr_
  obtain ⟨f0, d0, g0, k0, b0, F0⟩ := h0
  have F0 := F0.up (k := 8) (by decide)
  obtain ⟨f1, d1, g1, k1, b1, F1⟩ := h1
  have F1 := F1.up (k := 8) (by decide)
  obtain ⟨f2, d2, g2, k2, b2, F2⟩ := h2
  have F2 := F2.up (k := 8) (by decide)
  obtain ⟨f3, d3, g3, k3, b3, F3⟩ := h3
  have F3 := F3.up (k := 8) (by decide)
  obtain ⟨f4, d4, g4, k4, b4, F4⟩ := h4
  have F4 := F4.up (k := 8) (by decide)
  obtain ⟨f5, d5, g5, k5, b5, F5⟩ := h5
  have F5 := F5.up (k := 8) (by decide)
  obtain ⟨f6, d6, g6, k6, b6, F6⟩ := h6
  have F6 := F6.up (k := 8) (by decide)
  obtain ⟨f7, d7, g7, k7, b7, F7⟩ := h7
  have F7 := F7.up (k := 8) (by decide)
  obtain ⟨f8, d8, g8, k8, b8, F8⟩ := h8
  have F8 := F8.up (k := 8) (by decide)
  obtain ⟨f9, d9, g9, k9, b9, F9⟩ := h9
  have F9 := F9.up (k := 8) (by decide)
  obtain ⟨f10, d10, g10, k10, b10, F10⟩ := h10
  have F10 := F10.up (k := 8) (by decide)
  obtain ⟨f11, d11, g11, k11, b11, F11⟩ := h11
  have F11 := F11.up (k := 8) (by decide)
  obtain ⟨f12, d12, g12, k12, b12, F12⟩ := h12
  have F12 := F12.up (k := 8) (by decide)
  refine fn_M (mb := b_law N) F sc_law rfl rfl fun cdv E => ?_
  have c : CxG (bX P w K mg base 8 ["_law_script", "_law_bag_here", "_law_turn", "_law_house_here", "_law_history_here", "_law_plan_here", "_law_what", "_law_calls", "_law_shown", "_law_index", "_law_others", "_law_ahead", "_law_late", "_law_due", "_law_lot", "_law_rest_here", "_law_told", "_law_other", "_law_order"] "law" (defScope (topS 42)) f cdv E) K 8 := bX_cx sc_law
  exact (ms_cons (ms_set (k := 1) c.nd (fun _ => rfl) (fun _ => .inl rfl) (me_fnL (fun _ => F12) c (fun _ => rfl) (fun _ => g12) (fun _ => k12) (fun _ => b12) (fun _ => p0) (ma_cons (me_var (j := 0) (fun _ => rfl) fun _ => .inl rfl) ma_nil)))
      (ms_cons (ms_for (fun _ => PassesOwn.never) c.toCxF (mi_range1 (fun _ => rfl) (fun _ => z_range) me_int) (mg_name (k := 2) c.nd (fun _ => rfl) fun _ => .inl rfl) (ms_cons (ms_set (k := 3) c.nd (fun _ => rfl) (fun _ => .inl rfl) (me_fn (fun _ => F11) c (fun _ => rfl) (fun _ => g11) (fun _ => k11) (fun _ => b11) (fun _ => p0) (ma_cons (me_var (j := 1) (fun _ => rfl) fun _ => .inl rfl) (ma_cons me_int ma_nil))))
      (ms_cons (ms_set (k := 4) c.nd (fun _ => rfl) (fun _ => .inl rfl) (me_fn (fun _ => F10) c (fun _ => rfl) (fun _ => g10) (fun _ => k10) (fun _ => b10) (fun _ => p0) (ma_cons (me_var (j := 1) (fun _ => rfl) fun _ => .inl rfl) (ma_cons (me_var (j := 3) (fun _ => rfl) fun _ => .inl rfl) (ma_cons (me_fn (fun _ => F8) c (fun _ => rfl) (fun _ => g8) (fun _ => k8) (fun _ => b8) (fun _ => p0) (ma_cons (me_var (j := 1) (fun _ => rfl) fun _ => .inl rfl) (ma_cons (me_dead (mf_lst (ma_cons me_int (ma_cons me_int (ma_cons me_int ma_nil))))) ma_nil))) ma_nil)))))
      (ms_cons (ms_set (k := 5) c.nd (fun _ => rfl) (fun _ => .inl rfl) (me_fn (fun _ => F9) c (fun _ => rfl) (fun _ => g9) (fun _ => k9) (fun _ => b9) (fun _ => p0) (ma_cons (me_var (j := 1) (fun _ => rfl) fun _ => .inl rfl) (ma_cons (me_var (j := 3) (fun _ => rfl) fun _ => .inl rfl) (ma_cons (me_fn (fun _ => F8) c (fun _ => rfl) (fun _ => g8) (fun _ => k8) (fun _ => b8) (fun _ => p0) (ma_cons (me_var (j := 1) (fun _ => rfl) fun _ => .inl rfl) (ma_cons (me_dead (mf_lst (ma_cons me_int (ma_cons me_int ma_nil)))) ma_nil))) ma_nil)))))
      (ms_cons (ms_for (fun _ => PassesOwn.never) c.toCxF (mi_seq c.toCxF (me_tup (ma_cons (me_fn (fun _ => F0) c (fun _ => rfl) (fun _ => g0) (fun _ => k0) (fun _ => b0) (fun _ => p0) (ma_cons (me_var (j := 1) (fun _ => rfl) fun _ => .inl rfl) (ma_cons (me_var (j := 4) (fun _ => rfl) fun _ => .inl rfl) ma_nil))) (ma_cons (me_fn (fun _ => F0) c (fun _ => rfl) (fun _ => g0) (fun _ => k0) (fun _ => b0) (fun _ => p0) (ma_cons (me_var (j := 1) (fun _ => rfl) fun _ => .inl rfl) (ma_cons (me_var (j := 5) (fun _ => rfl) fun _ => .inl rfl) ma_nil))) ma_nil)))) (mg_name (k := 6) c.nd (fun _ => rfl) fun _ => .inl rfl) (ms_cons (ms_asg (me_tup (ma_cons (me_ix c.toCxF (me_var (j := 6) (fun _ => rfl) fun _ => .inl rfl) me_int) (ma_cons (me_callB (x := "repr") (cs_repr c) (fun _ => rfl) (fun _ => z_repr) (by decide +kernel) (ma_cons (me_var (j := 6) (fun _ => rfl) fun _ => .inl rfl) ma_nil)) ma_nil))) (mg_tup (n := 2) c.toCxF (mg_cons (mg_name (k := 7) c.nd (fun _ => rfl) fun _ => .inr rfl) (mg_cons (mg_name (k := 8) c.nd (fun _ => rfl) fun _ => .inl rfl) mg_nil))))
      (ms_cons (ms_for (fun _ => PassesOwn.never) c.toCxF (mi_seq c.toCxF (me_dead (mf_sl c.toCxF (me_fn (fun _ => F1) c (fun _ => rfl) (fun _ => g1) (fun _ => k1) (fun _ => b1) (fun _ => p0) (ma_cons (me_var (j := 1) (fun _ => rfl) fun _ => .inl rfl) (ma_cons (me_dead (mf_range c.toCxF (fun _ => rfl) (fun _ => z_list) (fun _ => rfl) (fun _ => z_range) (me_callB (x := "len") (cs_len c.toCxF) (fun _ => rfl) (fun _ => z_len) (by decide +kernel) (ma_cons (me_var (j := 7) (fun _ => rfl) fun _ => .inr (.inl rfl)) ma_nil)))) ma_nil))) mo_none (mo_some me_int)))) (mg_name (k := 9) c.nd (fun _ => rfl) fun _ => .inr rfl) (ms_cons (ms_setLcD (i := 10) c.toCxF (fun _ => rfl) (fun _ => rfl) (fun _ => rfl) (mi_range1 (fun _ => rfl) (fun _ => z_range) (me_callB (x := "len") (cs_len c.toCxF) (fun _ => rfl) (fun _ => z_len) (by decide +kernel) (ma_cons (me_var (j := 7) (fun _ => rfl) fun _ => .inr (.inl rfl)) ma_nil))) (own := [("_law_other", 17)]) (fun _ => blkOk_by rfl) (mg_name (k := 17) c.blk.nd (fun _ => rfl) fun _ => .inl rfl) (mts_one (mt_cmp (os_ne c.blk.toCxF) (me_var (j := 17) (fun _ => rfl) fun _ => .inl rfl) (me_var (j := 9) (fun _ => rfl) fun _ => .inr (.inl rfl)))) (me_var (j := 17) (fun _ => rfl) fun _ => .inl rfl))
      (ms_cons (ms_setLcD (i := 11) c.toCxF (fun _ => rfl) (fun _ => rfl) (fun _ => rfl) (mi_seq c.toCxF (me_var (j := 10) (fun _ => rfl) fun _ => .inl rfl)) (own := [("_law_other", 17)]) (fun _ => blkOk_by rfl) (mg_name (k := 17) c.blk.nd (fun _ => rfl) fun _ => .inl rfl) (mts_one (mt_val (me_fn (fun _ => F7) c.blk (fun _ => rfl) (fun _ => g7) (fun _ => k7) (fun _ => b7) (fun _ => p0) (ma_cons (me_var (j := 7) (fun _ => rfl) fun _ => .inr (.inl rfl)) (ma_cons (me_var (j := 17) (fun _ => rfl) fun _ => .inl rfl) (ma_cons (me_var (j := 9) (fun _ => rfl) fun _ => .inr (.inl rfl)) ma_nil)))))) (me_var (j := 17) (fun _ => rfl) fun _ => .inl rfl))
      (ms_cons (ms_setLcD (i := 12) c.toCxF (fun _ => rfl) (fun _ => rfl) (fun _ => rfl) (mi_seq c.toCxF (me_var (j := 10) (fun _ => rfl) fun _ => .inl rfl)) (own := [("_law_other", 17)]) (fun _ => blkOk_by rfl) (mg_name (k := 17) c.blk.nd (fun _ => rfl) fun _ => .inl rfl) (mts_one (mt_not (mt_val (me_fn (fun _ => F7) c.blk (fun _ => rfl) (fun _ => g7) (fun _ => k7) (fun _ => b7) (fun _ => p0) (ma_cons (me_var (j := 7) (fun _ => rfl) fun _ => .inr (.inl rfl)) (ma_cons (me_var (j := 9) (fun _ => rfl) fun _ => .inr (.inl rfl)) (ma_cons (me_var (j := 17) (fun _ => rfl) fun _ => .inl rfl) ma_nil))))))) (me_var (j := 17) (fun _ => rfl) fun _ => .inl rfl))
      (ms_cons (ms_set (k := 13) c.nd (fun _ => rfl) (fun _ => .inl rfl) (me_live (mf_lst ma_nil)))
      (ms_cons (ms_for (fun _ => PassesOwn.never) c.toCxF (mi_seq c.toCxF (me_tup (ma_cons (me_var (j := 11) (fun _ => rfl) fun _ => .inl rfl) (ma_cons (me_var (j := 12) (fun _ => rfl) fun _ => .inl rfl) ma_nil)))) (mg_name (k := 14) c.nd (fun _ => rfl) fun _ => .inr rfl) (ms_cons (ms_setLcD (i := 15) c.toCxF (fun _ => rfl) (fun _ => rfl) (fun _ => rfl) (mi_seq c.toCxF (me_var (j := 10) (fun _ => rfl) fun _ => .inl rfl)) (own := [("_law_other", 17)]) (fun _ => blkOk_by rfl) (mg_name (k := 17) c.blk.nd (fun _ => rfl) fun _ => .inl rfl) (mts_one (mt_cmp (os_notIn c.blk.toCxF) (me_var (j := 17) (fun _ => rfl) fun _ => .inl rfl) (me_var (j := 14) (fun _ => rfl) fun _ => .inr (.inl rfl)))) (me_var (j := 17) (fun _ => rfl) fun _ => .inl rfl))
      (ms_cons (ms_expr (me_chg ch_append PySem.F.slot_list_append PySem.F.type_list_append (me_var (j := 13) (fun _ => rfl) fun _ => .inl rfl) (ma_cons (me_op (os_add c.toCxF) (me_op (os_add c.toCxF) (me_fn (fun _ => F6) c (fun _ => rfl) (fun _ => g6) (fun _ => k6) (fun _ => b6) (fun _ => p0) (ma_cons (me_var (j := 7) (fun _ => rfl) fun _ => .inr (.inl rfl)) (ma_cons (me_var (j := 14) (fun _ => rfl) fun _ => .inr (.inl rfl)) ma_nil))) (me_tup (ma_cons (me_var (j := 9) (fun _ => rfl) fun _ => .inr (.inl rfl)) ma_nil))) (me_fn (fun _ => F6) c (fun _ => rfl) (fun _ => g6) (fun _ => k6) (fun _ => b6) (fun _ => p0) (ma_cons (me_var (j := 7) (fun _ => rfl) fun _ => .inr (.inl rfl)) (ma_cons (me_var (j := 15) (fun _ => rfl) fun _ => .inl rfl) ma_nil)))) ma_nil) (c := c.toCxF)))
      ms_nil)))
      (ms_cons (ms_set (k := 16) c.nd (fun _ => rfl) (fun _ => .inl rfl) (me_dead (mf_lst (ma_cons (me_fn (fun _ => F5) c (fun _ => rfl) (fun _ => g5) (fun _ => k5) (fun _ => b5) (fun _ => p0) (ma_cons (me_var (j := 6) (fun _ => rfl) fun _ => .inl rfl) (ma_cons (me_var (j := 9) (fun _ => rfl) fun _ => .inr (.inl rfl)) ma_nil))) (ma_cons (me_fn (fun _ => F4) c (fun _ => rfl) (fun _ => g4) (fun _ => k4) (fun _ => b4) (fun _ => p0) (ma_cons (me_var (j := 6) (fun _ => rfl) fun _ => .inl rfl) (ma_cons (me_var (j := 9) (fun _ => rfl) fun _ => .inr (.inl rfl)) ma_nil))) ma_nil)))))
      (ms_cons (ms_if (mw_mt (mw_or (mt_not (mt_val (me_fn (fun _ => F3) c (fun _ => rfl) (fun _ => g3) (fun _ => k3) (fun _ => b3) (fun _ => p0) (ma_cons (me_var (j := 16) (fun _ => rfl) fun _ => .inl rfl) (ma_cons (me_var (j := 13) (fun _ => rfl) fun _ => .inl rfl) ma_nil))))) (mw_or1 (mt_cmp (os_ne c.toCxF) (me_dead (mf_comp c.toCxF (mi_seq c.toCxF (me_var (j := 13) (fun _ => rfl) fun _ => .inl rfl)) (own := [("_law_order", 18)]) (fun _ => blkOk_by rfl) (mg_name (k := 18) c.blk.nd (fun _ => rfl) fun _ => .inl rfl) (mts_one (mt_not (mt_val (me_fn (fun _ => F2) c.blk (fun _ => rfl) (fun _ => g2) (fun _ => k2) (fun _ => b2) (fun _ => p0) (ma_cons (me_var (j := 7) (fun _ => rfl) fun _ => .inr (.inl rfl)) (ma_cons (me_var (j := 18) (fun _ => rfl) fun _ => .inl rfl) ma_nil)))))) me_int)) (me_dead (mf_lst ma_nil)))))) (ms_cons (ms_ret me_bl)
      ms_nil) ms_nil)
      ms_nil))))))))
      (ms_cons (ms_if (mt_cmp (os_ne c.toCxF) (me_callB (x := "repr") (cs_repr c) (fun _ => rfl) (fun _ => z_repr) (by decide +kernel) (ma_cons (me_var (j := 6) (fun _ => rfl) fun _ => .inl rfl) ma_nil)) (me_var (j := 8) (fun _ => rfl) fun _ => .inl rfl)) (ms_cons (ms_ret me_bl)
      ms_nil) ms_nil)
      ms_nil))))
      ms_nil)))))
      (ms_cons (ms_ret me_bl)
      ms_nil)))
end
/-! all defs -/
variable [Tbl]
set_option maxHeartbeats 0 in
theorem all_mk {P : Program} {w : World} {K : PySem.W.Frag} {h : Heap} {mg : PySem.Str → Option Value} {fa : Addr} (X : K.In h) (G : h.Ns mainGlobals mg) (hfa : mg "law" = some (.ref fa)) (cc_by_begins PP_by_begins : Addr) (ti_by_begins : (PP_by_begins, "by_begins" ++ ".<locals>." ++ lamN) ∈ Tbl.T) (to_by_begins : ∀ p ∈ Tbl.T, p.1 = PP_by_begins → p.2 = "by_begins" ++ ".<locals>." ++ lamN) (cc_behind_of PP_behind_of : Addr) (ti_behind_of : (PP_behind_of, "behind_of" ++ ".<locals>." ++ lamN) ∈ Tbl.T) (to_behind_of : ∀ p ∈ Tbl.T, p.1 = PP_behind_of → p.2 = "behind_of" ++ ".<locals>." ++ lamN) (cc_ahead_of PP_ahead_of : Addr) (ti_ahead_of : (PP_ahead_of, "ahead_of" ++ ".<locals>." ++ lamN) ∈ Tbl.T) (to_ahead_of : ∀ p ∈ Tbl.T, p.1 = PP_ahead_of → p.2 = "ahead_of" ++ ".<locals>." ++ lamN)
    {o_lot_of kV_lot_of dc_lot_of pm_lot_of cd_lot_of ct_lot_of : Value} {od_lot_of an_lot_of : Option Addr} {sl_lot_of : Array (Option Value)} {f_lot_of : Addr}
    (a_lot_of : PySem.W.nsIn K mainGlobals "lot_of" = some (some (.ref f_lot_of)))
    (l_lot_of : K.lookup f_lot_of = some ⟨o_lot_of, od_lot_of, .func (PySem.W.fnOf "lot_of" "lot_of" (defArgs (topS 2)) (defBody (topS 2)) (defScope (topS 2)) .none kV_lot_of dc_lot_of pm_lot_of an_lot_of cd_lot_of ct_lot_of), sl_lot_of⟩)
    (c_lot_of : PySem.W.codeIn K cd_lot_of "lot_of" = true)
    (k_lot_of : PySem.W.keepIn K (.ref f_lot_of) = true)
    {o_law_take kV_law_take dc_law_take pm_law_take cd_law_take ct_law_take : Value} {od_law_take an_law_take : Option Addr} {sl_law_take : Array (Option Value)} {f_law_take : Addr}
    (a_law_take : PySem.W.nsIn K mainGlobals "_law_take" = some (some (.ref f_law_take)))
    (l_law_take : K.lookup f_law_take = some ⟨o_law_take, od_law_take, .func (PySem.W.fnOf "_law_take" "_law_take" (defArgs (topS 12)) (defBody (topS 12)) (defScope (topS 12)) .none kV_law_take dc_law_take pm_law_take an_law_take cd_law_take ct_law_take), sl_law_take⟩)
    (c_law_take : PySem.W.codeIn K cd_law_take "_law_take" = true)
    (k_law_take : PySem.W.keepIn K (.ref f_law_take) = true)
    {o_law_one kV_law_one dc_law_one pm_law_one cd_law_one ct_law_one : Value} {od_law_one an_law_one : Option Addr} {sl_law_one : Array (Option Value)} {f_law_one : Addr}
    (a_law_one : PySem.W.nsIn K mainGlobals "_law_one" = some (some (.ref f_law_one)))
    (l_law_one : K.lookup f_law_one = some ⟨o_law_one, od_law_one, .func (PySem.W.fnOf "_law_one" "_law_one" (defArgs (topS 13)) (defBody (topS 13)) (defScope (topS 13)) .none kV_law_one dc_law_one pm_law_one an_law_one cd_law_one ct_law_one), sl_law_one⟩)
    (c_law_one : PySem.W.codeIn K cd_law_one "_law_one" = true)
    (k_law_one : PySem.W.keepIn K (.ref f_law_one) = true)
    {o_law_far kV_law_far dc_law_far pm_law_far cd_law_far ct_law_far : Value} {od_law_far an_law_far : Option Addr} {sl_law_far : Array (Option Value)} {f_law_far : Addr}
    (a_law_far : PySem.W.nsIn K mainGlobals "_law_far" = some (some (.ref f_law_far)))
    (l_law_far : K.lookup f_law_far = some ⟨o_law_far, od_law_far, .func (PySem.W.fnOf "_law_far" "_law_far" (defArgs (topS 40)) (defBody (topS 40)) (defScope (topS 40)) .none kV_law_far dc_law_far pm_law_far an_law_far cd_law_far ct_law_far), sl_law_far⟩)
    (c_law_far : PySem.W.codeIn K cd_law_far "_law_far" = true)
    (k_law_far : PySem.W.keepIn K (.ref f_law_far) = true)
    {o_law_mixed kV_law_mixed dc_law_mixed pm_law_mixed cd_law_mixed ct_law_mixed : Value} {od_law_mixed an_law_mixed : Option Addr} {sl_law_mixed : Array (Option Value)} {f_law_mixed : Addr}
    (a_law_mixed : PySem.W.nsIn K mainGlobals "_law_mixed" = some (some (.ref f_law_mixed)))
    (l_law_mixed : K.lookup f_law_mixed = some ⟨o_law_mixed, od_law_mixed, .func (PySem.W.fnOf "_law_mixed" "_law_mixed" (defArgs (topS 14)) (defBody (topS 14)) (defScope (topS 14)) .none kV_law_mixed dc_law_mixed pm_law_mixed an_law_mixed cd_law_mixed ct_law_mixed), sl_law_mixed⟩)
    (c_law_mixed : PySem.W.codeIn K cd_law_mixed "_law_mixed" = true)
    (k_law_mixed : PySem.W.keepIn K (.ref f_law_mixed) = true)
    {o_law_is_ahead kV_law_is_ahead dc_law_is_ahead pm_law_is_ahead cd_law_is_ahead ct_law_is_ahead : Value} {od_law_is_ahead an_law_is_ahead : Option Addr} {sl_law_is_ahead : Array (Option Value)} {f_law_is_ahead : Addr}
    (a_law_is_ahead : PySem.W.nsIn K mainGlobals "_law_is_ahead" = some (some (.ref f_law_is_ahead)))
    (l_law_is_ahead : K.lookup f_law_is_ahead = some ⟨o_law_is_ahead, od_law_is_ahead, .func (PySem.W.fnOf "_law_is_ahead" "_law_is_ahead" (defArgs (topS 38)) (defBody (topS 38)) (defScope (topS 38)) .none kV_law_is_ahead dc_law_is_ahead pm_law_is_ahead an_law_is_ahead cd_law_is_ahead ct_law_is_ahead), sl_law_is_ahead⟩)
    (c_law_is_ahead : PySem.W.codeIn K cd_law_is_ahead "_law_is_ahead" = true)
    (k_law_is_ahead : PySem.W.keepIn K (.ref f_law_is_ahead) = true)
    {o_law_is_int kV_law_is_int dc_law_is_int pm_law_is_int cd_law_is_int ct_law_is_int : Value} {od_law_is_int an_law_is_int : Option Addr} {sl_law_is_int : Array (Option Value)} {f_law_is_int : Addr}
    (a_law_is_int : PySem.W.nsIn K mainGlobals "_law_is_int" = some (some (.ref f_law_is_int)))
    (l_law_is_int : K.lookup f_law_is_int = some ⟨o_law_is_int, od_law_is_int, .func (PySem.W.fnOf "_law_is_int" "_law_is_int" (defArgs (topS 16)) (defBody (topS 16)) (defScope (topS 16)) .none kV_law_is_int dc_law_is_int pm_law_is_int an_law_is_int cd_law_is_int ct_law_is_int), sl_law_is_int⟩)
    (c_law_is_int : PySem.W.codeIn K cd_law_is_int "_law_is_int" = true)
    (k_law_is_int : PySem.W.keepIn K (.ref f_law_is_int) = true)
    {o_law_is_order kV_law_is_order dc_law_is_order pm_law_is_order cd_law_is_order ct_law_is_order : Value} {od_law_is_order an_law_is_order : Option Addr} {sl_law_is_order : Array (Option Value)} {f_law_is_order : Addr}
    (a_law_is_order : PySem.W.nsIn K mainGlobals "_law_is_order" = some (some (.ref f_law_is_order)))
    (l_law_is_order : K.lookup f_law_is_order = some ⟨o_law_is_order, od_law_is_order, .func (PySem.W.fnOf "_law_is_order" "_law_is_order" (defArgs (topS 39)) (defBody (topS 39)) (defScope (topS 39)) .none kV_law_is_order dc_law_is_order pm_law_is_order an_law_is_order cd_law_is_order ct_law_is_order), sl_law_is_order⟩)
    (c_law_is_order : PySem.W.codeIn K cd_law_is_order "_law_is_order" = true)
    (k_law_is_order : PySem.W.keepIn K (.ref f_law_is_order) = true)
    {o_law_alike kV_law_alike dc_law_alike pm_law_alike cd_law_alike ct_law_alike : Value} {od_law_alike an_law_alike : Option Addr} {sl_law_alike : Array (Option Value)} {f_law_alike : Addr}
    (a_law_alike : PySem.W.nsIn K mainGlobals "_law_alike" = some (some (.ref f_law_alike)))
    (l_law_alike : K.lookup f_law_alike = some ⟨o_law_alike, od_law_alike, .func (PySem.W.fnOf "_law_alike" "_law_alike" (defArgs (topS 15)) (defBody (topS 15)) (defScope (topS 15)) .none kV_law_alike dc_law_alike pm_law_alike an_law_alike cd_law_alike ct_law_alike), sl_law_alike⟩)
    (c_law_alike : PySem.W.codeIn K cd_law_alike "_law_alike" = true)
    (k_law_alike : PySem.W.keepIn K (.ref f_law_alike) = true)
    {o_by_begins kV_by_begins dc_by_begins pm_by_begins ct_by_begins : Value} {od_by_begins an_by_begins : Option Addr} {sl_by_begins : Array (Option Value)} {f_by_begins : Addr}
    (a_by_begins : PySem.W.nsIn K mainGlobals "by_begins" = some (some (.ref f_by_begins)))
    (l_by_begins : K.lookup f_by_begins = some ⟨o_by_begins, od_by_begins, .func (PySem.W.fnOf "by_begins" "by_begins" (defArgs (topS 6)) (defBody (topS 6)) (defScope (topS 6)) .none kV_by_begins dc_by_begins pm_by_begins an_by_begins (.ref cc_by_begins) ct_by_begins), sl_by_begins⟩)
    (c_by_begins : PySem.W.codeIn K (.ref cc_by_begins) "by_begins" = true)
    (k_by_begins : PySem.W.keepIn K (.ref f_by_begins) = true)
    {o_split_order kV_split_order dc_split_order pm_split_order cd_split_order ct_split_order : Value} {od_split_order an_split_order : Option Addr} {sl_split_order : Array (Option Value)} {f_split_order : Addr}
    (a_split_order : PySem.W.nsIn K mainGlobals "split_order" = some (some (.ref f_split_order)))
    (l_split_order : K.lookup f_split_order = some ⟨o_split_order, od_split_order, .func (PySem.W.fnOf "split_order" "split_order" (defArgs (topS 7)) (defBody (topS 7)) (defScope (topS 7)) .none kV_split_order dc_split_order pm_split_order an_split_order cd_split_order ct_split_order), sl_split_order⟩)
    (c_split_order : PySem.W.codeIn K cd_split_order "split_order" = true)
    (k_split_order : PySem.W.keepIn K (.ref f_split_order) = true)
    {o_is_ahead kV_is_ahead dc_is_ahead pm_is_ahead cd_is_ahead ct_is_ahead : Value} {od_is_ahead an_is_ahead : Option Addr} {sl_is_ahead : Array (Option Value)} {f_is_ahead : Addr}
    (a_is_ahead : PySem.W.nsIn K mainGlobals "is_ahead" = some (some (.ref f_is_ahead)))
    (l_is_ahead : K.lookup f_is_ahead = some ⟨o_is_ahead, od_is_ahead, .func (PySem.W.fnOf "is_ahead" "is_ahead" (defArgs (topS 1)) (defBody (topS 1)) (defScope (topS 1)) .none kV_is_ahead dc_is_ahead pm_is_ahead an_is_ahead cd_is_ahead ct_is_ahead), sl_is_ahead⟩)
    (c_is_ahead : PySem.W.codeIn K cd_is_ahead "is_ahead" = true)
    (k_is_ahead : PySem.W.keepIn K (.ref f_is_ahead) = true)
    {o_behind_of kV_behind_of dc_behind_of pm_behind_of ct_behind_of : Value} {od_behind_of an_behind_of : Option Addr} {sl_behind_of : Array (Option Value)} {f_behind_of : Addr}
    (a_behind_of : PySem.W.nsIn K mainGlobals "behind_of" = some (some (.ref f_behind_of)))
    (l_behind_of : K.lookup f_behind_of = some ⟨o_behind_of, od_behind_of, .func (PySem.W.fnOf "behind_of" "behind_of" (defArgs (topS 4)) (defBody (topS 4)) (defScope (topS 4)) .none kV_behind_of dc_behind_of pm_behind_of an_behind_of (.ref cc_behind_of) ct_behind_of), sl_behind_of⟩)
    (c_behind_of : PySem.W.codeIn K (.ref cc_behind_of) "behind_of" = true)
    (k_behind_of : PySem.W.keepIn K (.ref f_behind_of) = true)
    {o_late_order kV_late_order dc_late_order pm_late_order cd_late_order ct_late_order : Value} {od_late_order an_late_order : Option Addr} {sl_late_order : Array (Option Value)} {f_late_order : Addr}
    (a_late_order : PySem.W.nsIn K mainGlobals "late_order" = some (some (.ref f_late_order)))
    (l_late_order : K.lookup f_late_order = some ⟨o_late_order, od_late_order, .func (PySem.W.fnOf "late_order" "late_order" (defArgs (topS 9)) (defBody (topS 9)) (defScope (topS 9)) .none kV_late_order dc_late_order pm_late_order an_late_order cd_late_order ct_late_order), sl_late_order⟩)
    (c_late_order : PySem.W.codeIn K cd_late_order "late_order" = true)
    (k_late_order : PySem.W.keepIn K (.ref f_late_order) = true)
    {o_ahead_of kV_ahead_of dc_ahead_of pm_ahead_of ct_ahead_of : Value} {od_ahead_of an_ahead_of : Option Addr} {sl_ahead_of : Array (Option Value)} {f_ahead_of : Addr}
    (a_ahead_of : PySem.W.nsIn K mainGlobals "ahead_of" = some (some (.ref f_ahead_of)))
    (l_ahead_of : K.lookup f_ahead_of = some ⟨o_ahead_of, od_ahead_of, .func (PySem.W.fnOf "ahead_of" "ahead_of" (defArgs (topS 3)) (defBody (topS 3)) (defScope (topS 3)) .none kV_ahead_of dc_ahead_of pm_ahead_of an_ahead_of (.ref cc_ahead_of) ct_ahead_of), sl_ahead_of⟩)
    (c_ahead_of : PySem.W.codeIn K (.ref cc_ahead_of) "ahead_of" = true)
    (k_ahead_of : PySem.W.keepIn K (.ref f_ahead_of) = true)
    {o_early_order kV_early_order dc_early_order pm_early_order cd_early_order ct_early_order : Value} {od_early_order an_early_order : Option Addr} {sl_early_order : Array (Option Value)} {f_early_order : Addr}
    (a_early_order : PySem.W.nsIn K mainGlobals "early_order" = some (some (.ref f_early_order)))
    (l_early_order : K.lookup f_early_order = some ⟨o_early_order, od_early_order, .func (PySem.W.fnOf "early_order" "early_order" (defArgs (topS 8)) (defBody (topS 8)) (defScope (topS 8)) .none kV_early_order dc_early_order pm_early_order an_early_order cd_early_order ct_early_order), sl_early_order⟩)
    (c_early_order : PySem.W.codeIn K cd_early_order "early_order" = true)
    (k_early_order : PySem.W.keepIn K (.ref f_early_order) = true)
    {o_law_by_begins kV_law_by_begins dc_law_by_begins pm_law_by_begins cd_law_by_begins ct_law_by_begins : Value} {od_law_by_begins an_law_by_begins : Option Addr} {sl_law_by_begins : Array (Option Value)} {f_law_by_begins : Addr}
    (a_law_by_begins : PySem.W.nsIn K mainGlobals "_law_by_begins" = some (some (.ref f_law_by_begins)))
    (l_law_by_begins : K.lookup f_law_by_begins = some ⟨o_law_by_begins, od_law_by_begins, .func (PySem.W.fnOf "_law_by_begins" "_law_by_begins" (defArgs (topS 41)) (defBody (topS 41)) (defScope (topS 41)) .none kV_law_by_begins dc_law_by_begins pm_law_by_begins an_law_by_begins cd_law_by_begins ct_law_by_begins), sl_law_by_begins⟩)
    (c_law_by_begins : PySem.W.codeIn K cd_law_by_begins "_law_by_begins" = true)
    (k_law_by_begins : PySem.W.keepIn K (.ref f_law_by_begins) = true)
    {o_law_stretch kV_law_stretch dc_law_stretch pm_law_stretch cd_law_stretch ct_law_stretch : Value} {od_law_stretch an_law_stretch : Option Addr} {sl_law_stretch : Array (Option Value)} {f_law_stretch : Addr}
    (a_law_stretch : PySem.W.nsIn K mainGlobals "_law_stretch" = some (some (.ref f_law_stretch)))
    (l_law_stretch : K.lookup f_law_stretch = some ⟨o_law_stretch, od_law_stretch, .func (PySem.W.fnOf "_law_stretch" "_law_stretch" (defArgs (topS 31)) (defBody (topS 31)) (defScope (topS 31)) .none kV_law_stretch dc_law_stretch pm_law_stretch an_law_stretch cd_law_stretch ct_law_stretch), sl_law_stretch⟩)
    (c_law_stretch : PySem.W.codeIn K cd_law_stretch "_law_stretch" = true)
    (k_law_stretch : PySem.W.keepIn K (.ref f_law_stretch) = true)
    {o_law_rest kV_law_rest dc_law_rest pm_law_rest cd_law_rest ct_law_rest : Value} {od_law_rest an_law_rest : Option Addr} {sl_law_rest : Array (Option Value)} {f_law_rest : Addr}
    (a_law_rest : PySem.W.nsIn K mainGlobals "_law_rest" = some (some (.ref f_law_rest)))
    (l_law_rest : K.lookup f_law_rest = some ⟨o_law_rest, od_law_rest, .func (PySem.W.fnOf "_law_rest" "_law_rest" (defArgs (topS 17)) (defBody (topS 17)) (defScope (topS 17)) .none kV_law_rest dc_law_rest pm_law_rest an_law_rest cd_law_rest ct_law_rest), sl_law_rest⟩)
    (c_law_rest : PySem.W.codeIn K cd_law_rest "_law_rest" = true)
    (k_law_rest : PySem.W.keepIn K (.ref f_law_rest) = true)
    {o_law_comes_to kV_law_comes_to dc_law_comes_to pm_law_comes_to cd_law_comes_to ct_law_comes_to : Value} {od_law_comes_to an_law_comes_to : Option Addr} {sl_law_comes_to : Array (Option Value)} {f_law_comes_to : Addr}
    (a_law_comes_to : PySem.W.nsIn K mainGlobals "_law_comes_to" = some (some (.ref f_law_comes_to)))
    (l_law_comes_to : K.lookup f_law_comes_to = some ⟨o_law_comes_to, od_law_comes_to, .func (PySem.W.fnOf "_law_comes_to" "_law_comes_to" (defArgs (topS 23)) (defBody (topS 23)) (defScope (topS 23)) .none kV_law_comes_to dc_law_comes_to pm_law_comes_to an_law_comes_to cd_law_comes_to ct_law_comes_to), sl_law_comes_to⟩)
    (c_law_comes_to : PySem.W.codeIn K cd_law_comes_to "_law_comes_to" = true)
    (k_law_comes_to : PySem.W.keepIn K (.ref f_law_comes_to) = true)
    {o_law_sum kV_law_sum dc_law_sum pm_law_sum cd_law_sum ct_law_sum : Value} {od_law_sum an_law_sum : Option Addr} {sl_law_sum : Array (Option Value)} {f_law_sum : Addr}
    (a_law_sum : PySem.W.nsIn K mainGlobals "_law_sum" = some (some (.ref f_law_sum)))
    (l_law_sum : K.lookup f_law_sum = some ⟨o_law_sum, od_law_sum, .func (PySem.W.fnOf "_law_sum" "_law_sum" (defArgs (topS 27)) (defBody (topS 27)) (defScope (topS 27)) .none kV_law_sum dc_law_sum pm_law_sum an_law_sum cd_law_sum ct_law_sum), sl_law_sum⟩)
    (c_law_sum : PySem.W.codeIn K cd_law_sum "_law_sum" = true)
    (k_law_sum : PySem.W.keepIn K (.ref f_law_sum) = true)
    {o_law_plus kV_law_plus dc_law_plus pm_law_plus cd_law_plus ct_law_plus : Value} {od_law_plus an_law_plus : Option Addr} {sl_law_plus : Array (Option Value)} {f_law_plus : Addr}
    (a_law_plus : PySem.W.nsIn K mainGlobals "_law_plus" = some (some (.ref f_law_plus)))
    (l_law_plus : K.lookup f_law_plus = some ⟨o_law_plus, od_law_plus, .func (PySem.W.fnOf "_law_plus" "_law_plus" (defArgs (topS 19)) (defBody (topS 19)) (defScope (topS 19)) .none kV_law_plus dc_law_plus pm_law_plus an_law_plus cd_law_plus ct_law_plus), sl_law_plus⟩)
    (c_law_plus : PySem.W.codeIn K cd_law_plus "_law_plus" = true)
    (k_law_plus : PySem.W.keepIn K (.ref f_law_plus) = true)
    {o_law_sums kV_law_sums dc_law_sums pm_law_sums cd_law_sums ct_law_sums : Value} {od_law_sums an_law_sums : Option Addr} {sl_law_sums : Array (Option Value)} {f_law_sums : Addr}
    (a_law_sums : PySem.W.nsIn K mainGlobals "_law_sums" = some (some (.ref f_law_sums)))
    (l_law_sums : K.lookup f_law_sums = some ⟨o_law_sums, od_law_sums, .func (PySem.W.fnOf "_law_sums" "_law_sums" (defArgs (topS 28)) (defBody (topS 28)) (defScope (topS 28)) .none kV_law_sums dc_law_sums pm_law_sums an_law_sums cd_law_sums ct_law_sums), sl_law_sums⟩)
    (c_law_sums : PySem.W.codeIn K cd_law_sums "_law_sums" = true)
    (k_law_sums : PySem.W.keepIn K (.ref f_law_sums) = true)
    {o_law_world kV_law_world dc_law_world pm_law_world cd_law_world ct_law_world : Value} {od_law_world an_law_world : Option Addr} {sl_law_world : Array (Option Value)} {f_law_world : Addr}
    (a_law_world : PySem.W.nsIn K mainGlobals "_law_world" = some (some (.ref f_law_world)))
    (l_law_world : K.lookup f_law_world = some ⟨o_law_world, od_law_world, .func (PySem.W.fnOf "_law_world" "_law_world" (defArgs (topS 30)) (defBody (topS 30)) (defScope (topS 30)) .none kV_law_world dc_law_world pm_law_world an_law_world cd_law_world ct_law_world), sl_law_world⟩)
    (c_law_world : PySem.W.codeIn K cd_law_world "_law_world" = true)
    (k_law_world : PySem.W.keepIn K (.ref f_law_world) = true)
    {o_law_plan kV_law_plan dc_law_plan pm_law_plan cd_law_plan ct_law_plan : Value} {od_law_plan an_law_plan : Option Addr} {sl_law_plan : Array (Option Value)} {f_law_plan : Addr}
    (a_law_plan : PySem.W.nsIn K mainGlobals "_law_plan" = some (some (.ref f_law_plan)))
    (l_law_plan : K.lookup f_law_plan = some ⟨o_law_plan, od_law_plan, .func (PySem.W.fnOf "_law_plan" "_law_plan" (defArgs (topS 37)) (defBody (topS 37)) (defScope (topS 37)) .none kV_law_plan dc_law_plan pm_law_plan an_law_plan cd_law_plan ct_law_plan), sl_law_plan⟩)
    (c_law_plan : PySem.W.codeIn K cd_law_plan "_law_plan" = true)
    (k_law_plan : PySem.W.keepIn K (.ref f_law_plan) = true)
    {o_law_put kV_law_put dc_law_put pm_law_put cd_law_put ct_law_put : Value} {od_law_put an_law_put : Option Addr} {sl_law_put : Array (Option Value)} {f_law_put : Addr}
    (a_law_put : PySem.W.nsIn K mainGlobals "_law_put" = some (some (.ref f_law_put)))
    (l_law_put : K.lookup f_law_put = some ⟨o_law_put, od_law_put, .func (PySem.W.fnOf "_law_put" "_law_put" (defArgs (topS 33)) (defBody (topS 33)) (defScope (topS 33)) .none kV_law_put dc_law_put pm_law_put an_law_put cd_law_put ct_law_put), sl_law_put⟩)
    (c_law_put : PySem.W.codeIn K cd_law_put "_law_put" = true)
    (k_law_put : PySem.W.keepIn K (.ref f_law_put) = true)
    {o_law_other_answer kV_law_other_answer dc_law_other_answer pm_law_other_answer cd_law_other_answer ct_law_other_answer : Value} {od_law_other_answer an_law_other_answer : Option Addr} {sl_law_other_answer : Array (Option Value)} {f_law_other_answer : Addr}
    (a_law_other_answer : PySem.W.nsIn K mainGlobals "_law_other_answer" = some (some (.ref f_law_other_answer)))
    (l_law_other_answer : K.lookup f_law_other_answer = some ⟨o_law_other_answer, od_law_other_answer, .func (PySem.W.fnOf "_law_other_answer" "_law_other_answer" (defArgs (topS 34)) (defBody (topS 34)) (defScope (topS 34)) .none kV_law_other_answer dc_law_other_answer pm_law_other_answer an_law_other_answer cd_law_other_answer ct_law_other_answer), sl_law_other_answer⟩)
    (c_law_other_answer : PySem.W.codeIn K cd_law_other_answer "_law_other_answer" = true)
    (k_law_other_answer : PySem.W.keepIn K (.ref f_law_other_answer) = true)
    {o_law_bent_history kV_law_bent_history dc_law_bent_history pm_law_bent_history cd_law_bent_history ct_law_bent_history : Value} {od_law_bent_history an_law_bent_history : Option Addr} {sl_law_bent_history : Array (Option Value)} {f_law_bent_history : Addr}
    (a_law_bent_history : PySem.W.nsIn K mainGlobals "_law_bent_history" = some (some (.ref f_law_bent_history)))
    (l_law_bent_history : K.lookup f_law_bent_history = some ⟨o_law_bent_history, od_law_bent_history, .func (PySem.W.fnOf "_law_bent_history" "_law_bent_history" (defArgs (topS 35)) (defBody (topS 35)) (defScope (topS 35)) .none kV_law_bent_history dc_law_bent_history pm_law_bent_history an_law_bent_history cd_law_bent_history ct_law_bent_history), sl_law_bent_history⟩)
    (c_law_bent_history : PySem.W.codeIn K cd_law_bent_history "_law_bent_history" = true)
    (k_law_bent_history : PySem.W.keepIn K (.ref f_law_bent_history) = true)
    {o_law_inverse kV_law_inverse dc_law_inverse pm_law_inverse cd_law_inverse ct_law_inverse : Value} {od_law_inverse an_law_inverse : Option Addr} {sl_law_inverse : Array (Option Value)} {f_law_inverse : Addr}
    (a_law_inverse : PySem.W.nsIn K mainGlobals "_law_inverse" = some (some (.ref f_law_inverse)))
    (l_law_inverse : K.lookup f_law_inverse = some ⟨o_law_inverse, od_law_inverse, .func (PySem.W.fnOf "_law_inverse" "_law_inverse" (defArgs (topS 18)) (defBody (topS 18)) (defScope (topS 18)) .none kV_law_inverse dc_law_inverse pm_law_inverse an_law_inverse cd_law_inverse ct_law_inverse), sl_law_inverse⟩)
    (c_law_inverse : PySem.W.codeIn K cd_law_inverse "_law_inverse" = true)
    (k_law_inverse : PySem.W.keepIn K (.ref f_law_inverse) = true)
    {o_law_flat kV_law_flat dc_law_flat pm_law_flat cd_law_flat ct_law_flat : Value} {od_law_flat an_law_flat : Option Addr} {sl_law_flat : Array (Option Value)} {f_law_flat : Addr}
    (a_law_flat : PySem.W.nsIn K mainGlobals "_law_flat" = some (some (.ref f_law_flat)))
    (l_law_flat : K.lookup f_law_flat = some ⟨o_law_flat, od_law_flat, .func (PySem.W.fnOf "_law_flat" "_law_flat" (defArgs (topS 20)) (defBody (topS 20)) (defScope (topS 20)) .none kV_law_flat dc_law_flat pm_law_flat an_law_flat cd_law_flat ct_law_flat), sl_law_flat⟩)
    (c_law_flat : PySem.W.codeIn K cd_law_flat "_law_flat" = true)
    (k_law_flat : PySem.W.keepIn K (.ref f_law_flat) = true)
    {o_law_echelon kV_law_echelon dc_law_echelon pm_law_echelon cd_law_echelon ct_law_echelon : Value} {od_law_echelon an_law_echelon : Option Addr} {sl_law_echelon : Array (Option Value)} {f_law_echelon : Addr}
    (a_law_echelon : PySem.W.nsIn K mainGlobals "_law_echelon" = some (some (.ref f_law_echelon)))
    (l_law_echelon : K.lookup f_law_echelon = some ⟨o_law_echelon, od_law_echelon, .func (PySem.W.fnOf "_law_echelon" "_law_echelon" (defArgs (topS 21)) (defBody (topS 21)) (defScope (topS 21)) .none kV_law_echelon dc_law_echelon pm_law_echelon an_law_echelon cd_law_echelon ct_law_echelon), sl_law_echelon⟩)
    (c_law_echelon : PySem.W.codeIn K cd_law_echelon "_law_echelon" = true)
    (k_law_echelon : PySem.W.keepIn K (.ref f_law_echelon) = true)
    {o_law_given kV_law_given dc_law_given pm_law_given cd_law_given ct_law_given : Value} {od_law_given an_law_given : Option Addr} {sl_law_given : Array (Option Value)} {f_law_given : Addr}
    (a_law_given : PySem.W.nsIn K mainGlobals "_law_given" = some (some (.ref f_law_given)))
    (l_law_given : K.lookup f_law_given = some ⟨o_law_given, od_law_given, .func (PySem.W.fnOf "_law_given" "_law_given" (defArgs (topS 22)) (defBody (topS 22)) (defScope (topS 22)) .none kV_law_given dc_law_given pm_law_given an_law_given cd_law_given ct_law_given), sl_law_given⟩)
    (c_law_given : PySem.W.codeIn K cd_law_given "_law_given" = true)
    (k_law_given : PySem.W.keepIn K (.ref f_law_given) = true)
    {o_law_answer kV_law_answer dc_law_answer pm_law_answer cd_law_answer ct_law_answer : Value} {od_law_answer an_law_answer : Option Addr} {sl_law_answer : Array (Option Value)} {f_law_answer : Addr}
    (a_law_answer : PySem.W.nsIn K mainGlobals "_law_answer" = some (some (.ref f_law_answer)))
    (l_law_answer : K.lookup f_law_answer = some ⟨o_law_answer, od_law_answer, .func (PySem.W.fnOf "_law_answer" "_law_answer" (defArgs (topS 24)) (defBody (topS 24)) (defScope (topS 24)) .none kV_law_answer dc_law_answer pm_law_answer an_law_answer cd_law_answer ct_law_answer), sl_law_answer⟩)
    (c_law_answer : PySem.W.codeIn K cd_law_answer "_law_answer" = true)
    (k_law_answer : PySem.W.keepIn K (.ref f_law_answer) = true)
    {o_law_answers_by kV_law_answers_by dc_law_answers_by pm_law_answers_by cd_law_answers_by ct_law_answers_by : Value} {od_law_answers_by an_law_answers_by : Option Addr} {sl_law_answers_by : Array (Option Value)} {f_law_answers_by : Addr}
    (a_law_answers_by : PySem.W.nsIn K mainGlobals "_law_answers_by" = some (some (.ref f_law_answers_by)))
    (l_law_answers_by : K.lookup f_law_answers_by = some ⟨o_law_answers_by, od_law_answers_by, .func (PySem.W.fnOf "_law_answers_by" "_law_answers_by" (defArgs (topS 25)) (defBody (topS 25)) (defScope (topS 25)) .none kV_law_answers_by dc_law_answers_by pm_law_answers_by an_law_answers_by cd_law_answers_by ct_law_answers_by), sl_law_answers_by⟩)
    (c_law_answers_by : PySem.W.codeIn K cd_law_answers_by "_law_answers_by" = true)
    (k_law_answers_by : PySem.W.keepIn K (.ref f_law_answers_by) = true)
    {o_law_deed kV_law_deed dc_law_deed pm_law_deed cd_law_deed ct_law_deed : Value} {od_law_deed an_law_deed : Option Addr} {sl_law_deed : Array (Option Value)} {f_law_deed : Addr}
    (a_law_deed : PySem.W.nsIn K mainGlobals "_law_deed" = some (some (.ref f_law_deed)))
    (l_law_deed : K.lookup f_law_deed = some ⟨o_law_deed, od_law_deed, .func (PySem.W.fnOf "_law_deed" "_law_deed" (defArgs (topS 29)) (defBody (topS 29)) (defScope (topS 29)) .none kV_law_deed dc_law_deed pm_law_deed an_law_deed cd_law_deed ct_law_deed), sl_law_deed⟩)
    (c_law_deed : PySem.W.codeIn K cd_law_deed "_law_deed" = true)
    (k_law_deed : PySem.W.keepIn K (.ref f_law_deed) = true)
    {o_law_history kV_law_history dc_law_history pm_law_history cd_law_history ct_law_history : Value} {od_law_history an_law_history : Option Addr} {sl_law_history : Array (Option Value)} {f_law_history : Addr}
    (a_law_history : PySem.W.nsIn K mainGlobals "_law_history" = some (some (.ref f_law_history)))
    (l_law_history : K.lookup f_law_history = some ⟨o_law_history, od_law_history, .func (PySem.W.fnOf "_law_history" "_law_history" (defArgs (topS 32)) (defBody (topS 32)) (defScope (topS 32)) .none kV_law_history dc_law_history pm_law_history an_law_history cd_law_history ct_law_history), sl_law_history⟩)
    (c_law_history : PySem.W.codeIn K cd_law_history "_law_history" = true)
    (k_law_history : PySem.W.keepIn K (.ref f_law_history) = true)
    {o_law_some_history kV_law_some_history dc_law_some_history pm_law_some_history cd_law_some_history ct_law_some_history : Value} {od_law_some_history an_law_some_history : Option Addr} {sl_law_some_history : Array (Option Value)} {f_law_some_history : Addr}
    (a_law_some_history : PySem.W.nsIn K mainGlobals "_law_some_history" = some (some (.ref f_law_some_history)))
    (l_law_some_history : K.lookup f_law_some_history = some ⟨o_law_some_history, od_law_some_history, .func (PySem.W.fnOf "_law_some_history" "_law_some_history" (defArgs (topS 36)) (defBody (topS 36)) (defScope (topS 36)) .none kV_law_some_history dc_law_some_history pm_law_some_history an_law_some_history cd_law_some_history ct_law_some_history), sl_law_some_history⟩)
    (c_law_some_history : PySem.W.codeIn K cd_law_some_history "_law_some_history" = true)
    (k_law_some_history : PySem.W.keepIn K (.ref f_law_some_history) = true)
    {o_law_house kV_law_house dc_law_house pm_law_house cd_law_house ct_law_house : Value} {od_law_house an_law_house : Option Addr} {sl_law_house : Array (Option Value)} {f_law_house : Addr}
    (a_law_house : PySem.W.nsIn K mainGlobals "_law_house" = some (some (.ref f_law_house)))
    (l_law_house : K.lookup f_law_house = some ⟨o_law_house, od_law_house, .func (PySem.W.fnOf "_law_house" "_law_house" (defArgs (topS 26)) (defBody (topS 26)) (defScope (topS 26)) .none kV_law_house dc_law_house pm_law_house an_law_house cd_law_house ct_law_house), sl_law_house⟩)
    (c_law_house : PySem.W.codeIn K cd_law_house "_law_house" = true)
    (k_law_house : PySem.W.keepIn K (.ref f_law_house) = true)
    {o_law_bag kV_law_bag dc_law_bag pm_law_bag cd_law_bag ct_law_bag : Value} {od_law_bag an_law_bag : Option Addr} {sl_law_bag : Array (Option Value)} {f_law_bag : Addr}
    (a_law_bag : PySem.W.nsIn K mainGlobals "_law_bag" = some (some (.ref f_law_bag)))
    (l_law_bag : K.lookup f_law_bag = some ⟨o_law_bag, od_law_bag, .func (PySem.W.fnOf "_law_bag" "_law_bag" (defArgs (topS 11)) (defBody (topS 11)) (defScope (topS 11)) .none kV_law_bag dc_law_bag pm_law_bag an_law_bag cd_law_bag ct_law_bag), sl_law_bag⟩)
    (c_law_bag : PySem.W.codeIn K cd_law_bag "_law_bag" = true)
    (k_law_bag : PySem.W.keepIn K (.ref f_law_bag) = true)
    {o_law kV_law dc_law pm_law cd_law ct_law : Value} {od_law an_law : Option Addr} {sl_law : Array (Option Value)} {f_law : Addr}
    (a_law : PySem.W.nsIn K mainGlobals "law" = some (some (.ref f_law)))
    (l_law : K.lookup f_law = some ⟨o_law, od_law, .func (PySem.W.fnOf "law" "law" (defArgs (topS 42)) (defBody (topS 42)) (defScope (topS 42)) .none kV_law dc_law pm_law an_law cd_law ct_law), sl_law⟩)
    (c_law : PySem.W.codeIn K cd_law "law" = true)
    (k_law : PySem.W.keepIn K (.ref f_law) = true)
    (zabs : PySem.W.nsIn K mainGlobals "abs" = some none)
    (zbool : PySem.W.nsIn K mainGlobals "bool" = some none)
    (zenumerate : PySem.W.nsIn K mainGlobals "enumerate" = some none)
    (zint : PySem.W.nsIn K mainGlobals "int" = some none)
    (zisinstance : PySem.W.nsIn K mainGlobals "isinstance" = some none)
    (zlen : PySem.W.nsIn K mainGlobals "len" = some none)
    (zlist : PySem.W.nsIn K mainGlobals "list" = some none)
    (zrange : PySem.W.nsIn K mainGlobals "range" = some none)
    (zrepr : PySem.W.nsIn K mainGlobals "repr" = some none)
    (zsorted : PySem.W.nsIn K mainGlobals "sorted" = some none)
    (zsum : PySem.W.nsIn K mainGlobals "sum" = some none)
    (ztuple : PySem.W.nsIn K mainGlobals "tuple" = some none)
    (zzip : PySem.W.nsIn K mainGlobals "zip" = some none)
    : ∃ fd : FuncData, (∀ (s : Shared) (v : Value), BindsTo s fd ⟨[v], []⟩ [("_law_script", v)]) ∧ ∀ (N : Nat) (base : Heap), K.In base → base.Ns mainGlobals mg → (∀ p ∈ ([(cc_by_begins, PP_by_begins), (cc_behind_of, PP_behind_of), (cc_ahead_of, PP_ahead_of)] : List (Addr × Addr)), LamX.TabB base mg p.1 p.2) → FnG P w K mg base CX0 9 fa fd ["_law_script"] (spOf K 1 (m_law N)) := by
  have e := hfa.symm.trans (PySem.W.mg_of X G a_law)
  cases e
  have B : NoB mg := ⟨PySem.W.mg_none_of X G zabs, PySem.W.mg_none_of X G zbool, PySem.W.mg_none_of X G zenumerate, PySem.W.mg_none_of X G zint, PySem.W.mg_none_of X G zisinstance, PySem.W.mg_none_of X G zlen, PySem.W.mg_none_of X G zlist, PySem.W.mg_none_of X G zrange, PySem.W.mg_none_of X G zrepr, PySem.W.mg_none_of X G zsorted, PySem.W.mg_none_of X G zsum, PySem.W.mg_none_of X G ztuple, PySem.W.mg_none_of X G zzip⟩
  have F_lot_of := L2.fun_mk (st := topS 2) l_lot_of c_lot_of k_lot_of
  have bd_lot_of := F_lot_of.binds (ps := ["what", "is_wanted"]) fun _ _ _ _ _ _ us hl => match us, hl with | [_, _], _ => rfl
  have H_lot_of : HasLot K mg "lot_of" "what" "is_wanted" (topS 2) := ⟨_, _, _, _, _, _, _, _, _, _, l_lot_of, c_lot_of, PySem.W.mg_of X G a_lot_of, F_lot_of.kp, bd_lot_of⟩
  have F_law_take := L2.fun_mk (st := topS 12) l_law_take c_law_take k_law_take
  have bd_law_take := F_law_take.binds (ps := ["_law_bag_here", "_law_many"]) fun _ _ _ _ _ _ us hl => match us, hl with | [_, _], _ => rfl
  have F_law_one := L2.fun_mk (st := topS 13) l_law_one c_law_one k_law_one
  have bd_law_one := F_law_one.binds (ps := ["_law_bag_here", "_law_things"]) fun _ _ _ _ _ _ us hl => match us, hl with | [_, _], _ => rfl
  have F_law_far := L2.fun_mk (st := topS 40) l_law_far c_law_far k_law_far
  have bd_law_far := F_law_far.binds (ps := ["_law_bag_here", "_law_what"]) fun _ _ _ _ _ _ us hl => match us, hl with | [_, _], _ => rfl
  have F_law_mixed := L2.fun_mk (st := topS 14) l_law_mixed c_law_mixed k_law_mixed
  have bd_law_mixed := F_law_mixed.binds (ps := ["_law_bag_here", "_law_things"]) fun _ _ _ _ _ _ us hl => match us, hl with | [_, _], _ => rfl
  have F_law_is_ahead := L2.fun_mk (st := topS 38) l_law_is_ahead c_law_is_ahead k_law_is_ahead
  have bd_law_is_ahead := F_law_is_ahead.binds (ps := ["_law_calls", "_law_one_here", "_law_other"]) fun _ _ _ _ _ _ us hl => match us, hl with | [_, _, _], _ => rfl
  have F_law_is_int := L2.fun_mk (st := topS 16) l_law_is_int c_law_is_int k_law_is_int
  have bd_law_is_int := F_law_is_int.binds (ps := ["_law_thing"]) fun _ _ _ _ _ _ us hl => match us, hl with | [_], _ => rfl
  have F_law_is_order := L2.fun_mk (st := topS 39) l_law_is_order c_law_is_order k_law_is_order
  have bd_law_is_order := F_law_is_order.binds (ps := ["_law_calls", "_law_thing"]) fun _ _ _ _ _ _ us hl => match us, hl with | [_, _], _ => rfl
  have F_law_alike := L2.fun_mk (st := topS 15) l_law_alike c_law_alike k_law_alike
  have bd_law_alike := F_law_alike.binds (ps := ["_law_found", "_law_due"]) fun _ _ _ _ _ _ us hl => match us, hl with | [_, _], _ => rfl
  have F_by_begins := L2.fun_mk (st := topS 6) l_by_begins c_by_begins k_by_begins
  have bd_by_begins := F_by_begins.binds (ps := ["what", "lot"]) fun _ _ _ _ _ _ us hl => match us, hl with | [_, _], _ => rfl
  have F_split_order := L2.fun_mk (st := topS 7) l_split_order c_split_order k_split_order
  have bd_split_order := F_split_order.binds (ps := ["what", "index", "ahead"]) fun _ _ _ _ _ _ us hl => match us, hl with | [_, _, _], _ => rfl
  have F_is_ahead := L2.fun_mk (st := topS 1) l_is_ahead c_is_ahead k_is_ahead
  have bd_is_ahead := F_is_ahead.binds (ps := ["what", "one", "other"]) fun _ _ _ _ _ _ us hl => match us, hl with | [_, _, _], _ => rfl
  have F_behind_of := L2.fun_mk (st := topS 4) l_behind_of c_behind_of k_behind_of
  have bd_behind_of := F_behind_of.binds (ps := ["what", "index"]) fun _ _ _ _ _ _ us hl => match us, hl with | [_, _], _ => rfl
  have F_late_order := L2.fun_mk (st := topS 9) l_late_order c_late_order k_late_order
  have bd_late_order := F_late_order.binds (ps := ["what", "index"]) fun _ _ _ _ _ _ us hl => match us, hl with | [_, _], _ => rfl
  have F_ahead_of := L2.fun_mk (st := topS 3) l_ahead_of c_ahead_of k_ahead_of
  have bd_ahead_of := F_ahead_of.binds (ps := ["what", "index"]) fun _ _ _ _ _ _ us hl => match us, hl with | [_, _], _ => rfl
  have F_early_order := L2.fun_mk (st := topS 8) l_early_order c_early_order k_early_order
  have bd_early_order := F_early_order.binds (ps := ["what", "index"]) fun _ _ _ _ _ _ us hl => match us, hl with | [_, _], _ => rfl
  have F_law_by_begins := L2.fun_mk (st := topS 41) l_law_by_begins c_law_by_begins k_law_by_begins
  have bd_law_by_begins := F_law_by_begins.binds (ps := ["_law_calls", "_law_lot"]) fun _ _ _ _ _ _ us hl => match us, hl with | [_, _], _ => rfl
  have F_law_stretch := L2.fun_mk (st := topS 31) l_law_stretch c_law_stretch k_law_stretch
  have bd_law_stretch := F_law_stretch.binds (ps := ["_law_bag_here", "_law_moment", "_law_way"]) fun _ _ _ _ _ _ us hl => match us, hl with | [_, _, _], _ => rfl
  have F_law_rest := L2.fun_mk (st := topS 17) l_law_rest c_law_rest k_law_rest
  have bd_law_rest := F_law_rest.binds (ps := ["_law_number", "_law_prime"]) fun _ _ _ _ _ _ us hl => match us, hl with | [_, _], _ => rfl
  have F_law_comes_to := L2.fun_mk (st := topS 23) l_law_comes_to c_law_comes_to k_law_comes_to
  have bd_law_comes_to := F_law_comes_to.binds (ps := ["_law_house_here", "_law_world_here", "_law_sums_here"]) fun _ _ _ _ _ _ us hl => match us, hl with | [_, _, _], _ => rfl
  have F_law_sum := L2.fun_mk (st := topS 27) l_law_sum c_law_sum k_law_sum
  have bd_law_sum := F_law_sum.binds (ps := ["_law_bag_here", "_law_house_here"]) fun _ _ _ _ _ _ us hl => match us, hl with | [_, _], _ => rfl
  have F_law_plus := L2.fun_mk (st := topS 19) l_law_plus c_law_plus k_law_plus
  have bd_law_plus := F_law_plus.binds (ps := ["_law_house_here", "_law_row", "_law_many", "_law_other"]) fun _ _ _ _ _ _ us hl => match us, hl with | [_, _, _, _], _ => rfl
  have F_law_sums := L2.fun_mk (st := topS 28) l_law_sums c_law_sums k_law_sums
  have bd_law_sums := F_law_sums.binds (ps := ["_law_bag_here", "_law_house_here", "_law_many"]) fun _ _ _ _ _ _ us hl => match us, hl with | [_, _, _], _ => rfl
  have F_law_world := L2.fun_mk (st := topS 30) l_law_world c_law_world k_law_world
  have bd_law_world := F_law_world.binds (ps := ["_law_bag_here", "_law_house_here"]) fun _ _ _ _ _ _ us hl => match us, hl with | [_, _], _ => rfl
  have F_law_plan := L2.fun_mk (st := topS 37) l_law_plan c_law_plan k_law_plan
  have bd_law_plan := F_law_plan.binds (ps := ["_law_bag_here", "_law_house_here", "_law_most"]) fun _ _ _ _ _ _ us hl => match us, hl with | [_, _, _], _ => rfl
  have F_law_put := L2.fun_mk (st := topS 33) l_law_put c_law_put k_law_put
  have bd_law_put := F_law_put.binds (ps := ["_law_items", "_law_index", "_law_item"]) fun _ _ _ _ _ _ us hl => match us, hl with | [_, _, _], _ => rfl
  have F_law_other_answer := L2.fun_mk (st := topS 34) l_law_other_answer c_law_other_answer k_law_other_answer
  have bd_law_other_answer := F_law_other_answer.binds (ps := ["_law_bag_here", "_law_house_here", "_law_call"]) fun _ _ _ _ _ _ us hl => match us, hl with | [_, _, _], _ => rfl
  have F_law_bent_history := L2.fun_mk (st := topS 35) l_law_bent_history c_law_bent_history k_law_bent_history
  have bd_law_bent_history := F_law_bent_history.binds (ps := ["_law_bag_here", "_law_history_here"]) fun _ _ _ _ _ _ us hl => match us, hl with | [_, _], _ => rfl
  have F_law_inverse := L2.fun_mk (st := topS 18) l_law_inverse c_law_inverse k_law_inverse
  have bd_law_inverse := F_law_inverse.binds (ps := ["_law_prime", "_law_number"]) fun _ _ _ _ _ _ us hl => match us, hl with | [_, _], _ => rfl
  have F_law_flat := L2.fun_mk (st := topS 20) l_law_flat c_law_flat k_law_flat
  have bd_law_flat := F_law_flat.binds (ps := ["_law_row", "_law_many", "_law_index"]) fun _ _ _ _ _ _ us hl => match us, hl with | [_, _, _], _ => rfl
  have F_law_echelon := L2.fun_mk (st := topS 21) l_law_echelon c_law_echelon k_law_echelon
  have bd_law_echelon := F_law_echelon.binds (ps := ["_law_house_here", "_law_rows"]) fun _ _ _ _ _ _ us hl => match us, hl with | [_, _], _ => rfl
  have F_law_given := L2.fun_mk (st := topS 22) l_law_given c_law_given k_law_given
  have bd_law_given := F_law_given.binds (ps := ["_law_house_here", "_law_rows", "_law_sums_here"]) fun _ _ _ _ _ _ us hl => match us, hl with | [_, _, _], _ => rfl
  have F_law_answer := L2.fun_mk (st := topS 24) l_law_answer c_law_answer k_law_answer
  have bd_law_answer := F_law_answer.binds (ps := ["_law_house_here", "_law_rows", "_law_deed_here"]) fun _ _ _ _ _ _ us hl => match us, hl with | [_, _, _], _ => rfl
  have F_law_answers_by := L2.fun_mk (st := topS 25) l_law_answers_by c_law_answers_by k_law_answers_by
  have bd_law_answers_by := F_law_answers_by.binds (ps := ["_law_house_here", "_law_deeds"]) fun _ _ _ _ _ _ us hl => match us, hl with | [_, _], _ => rfl
  have F_law_deed := L2.fun_mk (st := topS 29) l_law_deed c_law_deed k_law_deed
  have bd_law_deed := F_law_deed.binds (ps := ["_law_bag_here", "_law_house_here", "_law_sums_here", "_law_world_here"]) fun _ _ _ _ _ _ us hl => match us, hl with | [_, _, _, _], _ => rfl
  have F_law_history := L2.fun_mk (st := topS 32) l_law_history c_law_history k_law_history
  have bd_law_history := F_law_history.binds (ps := ["_law_bag_here", "_law_house_here", "_law_most"]) fun _ _ _ _ _ _ us hl => match us, hl with | [_, _, _], _ => rfl
  have F_law_some_history := L2.fun_mk (st := topS 36) l_law_some_history c_law_some_history k_law_some_history
  have bd_law_some_history := F_law_some_history.binds (ps := ["_law_bag_here", "_law_house_here", "_law_most"]) fun _ _ _ _ _ _ us hl => match us, hl with | [_, _, _], _ => rfl
  have F_law_house := L2.fun_mk (st := topS 26) l_law_house c_law_house k_law_house
  have bd_law_house := F_law_house.binds (ps := ["_law_bag_here", "_law_most"]) fun _ _ _ _ _ _ us hl => match us, hl with | [_, _], _ => rfl
  have F_law_bag := L2.fun_mk (st := topS 11) l_law_bag c_law_bag k_law_bag
  have bd_law_bag := F_law_bag.binds (ps := ["_law_script"]) fun _ _ _ _ _ _ us hl => match us, hl with | [_], _ => rfl
  have F_law := L2.fun_mk (st := topS 42) l_law c_law k_law
  refine ⟨PySem.W.fnOf "law" "law" (defArgs (topS 42)) (defBody (topS 42)) (defScope (topS 42)) .none kV_law dc_law pm_law an_law cd_law ct_law, fun s v => .of_eq rfl, fun N base _ _ tbs => ?_⟩
  have G_law_take := ok_law_take (P := P) (w := w) (base := base) N F_law_take B 
  have H_law_take : Has P w K mg base 1 "_law_take" ["_law_bag_here", "_law_many"] 2 (m_law_take N) := ⟨_, _, PySem.W.mg_of X G a_law_take, F_law_take.kp, bd_law_take, G_law_take⟩
  have G_law_one := ok_law_one (P := P) (w := w) (base := base) N F_law_one B H_law_take
  have H_law_one : Has P w K mg base 2 "_law_one" ["_law_bag_here", "_law_things"] 2 (m_law_one N) := ⟨_, _, PySem.W.mg_of X G a_law_one, F_law_one.kp, bd_law_one, G_law_one⟩
  have G_law_far := ok_law_far (P := P) (w := w) (base := base) N F_law_far B H_law_one
  have H_law_far : Has P w K mg base 3 "_law_far" ["_law_bag_here", "_law_what"] 2 (m_law_far N) := ⟨_, _, PySem.W.mg_of X G a_law_far, F_law_far.kp, bd_law_far, G_law_far⟩
  have G_law_mixed := ok_law_mixed (P := P) (w := w) (base := base) N F_law_mixed B H_law_take
  have H_law_mixed : Has P w K mg base 2 "_law_mixed" ["_law_bag_here", "_law_things"] 2 (m_law_mixed N) := ⟨_, _, PySem.W.mg_of X G a_law_mixed, F_law_mixed.kp, bd_law_mixed, G_law_mixed⟩
  have G_law_is_ahead := ok_law_is_ahead (P := P) (w := w) (base := base) N F_law_is_ahead B 
  have H_law_is_ahead : Has P w K mg base 1 "_law_is_ahead" ["_law_calls", "_law_one_here", "_law_other"] 3 (m_law_is_ahead N) := ⟨_, _, PySem.W.mg_of X G a_law_is_ahead, F_law_is_ahead.kp, bd_law_is_ahead, G_law_is_ahead⟩
  have G_law_is_int := ok_law_is_int (P := P) (w := w) (base := base) N F_law_is_int B 
  have H_law_is_int : Has P w K mg base 1 "_law_is_int" ["_law_thing"] 1 (m_law_is_int N) := ⟨_, _, PySem.W.mg_of X G a_law_is_int, F_law_is_int.kp, bd_law_is_int, G_law_is_int⟩
  have G_law_is_order := ok_law_is_order (P := P) (w := w) (base := base) N F_law_is_order B H_law_is_ahead H_law_is_int
  have H_law_is_order : Has P w K mg base 2 "_law_is_order" ["_law_calls", "_law_thing"] 2 (m_law_is_order N) := ⟨_, _, PySem.W.mg_of X G a_law_is_order, F_law_is_order.kp, bd_law_is_order, G_law_is_order⟩
  have G_law_alike := ok_law_alike (P := P) (w := w) (base := base) N F_law_alike B 
  have H_law_alike : Has P w K mg base 1 "_law_alike" ["_law_found", "_law_due"] 2 (m_law_alike N) := ⟨_, _, PySem.W.mg_of X G a_law_alike, F_law_alike.kp, bd_law_alike, G_law_alike⟩
  have G_by_begins := ok_by_begins (P := P) (w := w) (base := base) N F_by_begins B  (fun v ⟨_, _, _, _, lk, e⟩ => by rw [l_by_begins] at lk; cases lk; exact e.symm) (tbs (cc_by_begins, PP_by_begins) (by simp)) ti_by_begins to_by_begins
  have H_by_begins : Has P w K mg base 4 "by_begins" ["what", "lot"] 2 (m_by_begins N) := ⟨_, _, PySem.W.mg_of X G a_by_begins, F_by_begins.kp, bd_by_begins, G_by_begins⟩
  have G_split_order := ok_split_order (P := P) (w := w) (base := base) N F_split_order B H_by_begins
  have H_split_order : Has P w K mg base 5 "split_order" ["what", "index", "ahead"] 3 (m_split_order N) := ⟨_, _, PySem.W.mg_of X G a_split_order, F_split_order.kp, bd_split_order, G_split_order⟩
  have G_is_ahead := ok_is_ahead (P := P) (w := w) (base := base) N F_is_ahead B 
  have H_is_ahead : Has P w K mg base 1 "is_ahead" ["what", "one", "other"] 3 (m_is_ahead N) := ⟨_, _, PySem.W.mg_of X G a_is_ahead, F_is_ahead.kp, bd_is_ahead, G_is_ahead⟩
  have G_behind_of := ok_behind_of (P := P) (w := w) (base := base) N F_behind_of B H_is_ahead H_lot_of (fun v ⟨_, _, _, _, lk, e⟩ => by rw [l_behind_of] at lk; cases lk; exact e.symm) (tbs (cc_behind_of, PP_behind_of) (by simp)) ti_behind_of to_behind_of
  have H_behind_of : Has P w K mg base 4 "behind_of" ["what", "index"] 2 (m_behind_of N) := ⟨_, _, PySem.W.mg_of X G a_behind_of, F_behind_of.kp, bd_behind_of, G_behind_of⟩
  have G_late_order := ok_late_order (P := P) (w := w) (base := base) N F_late_order B H_split_order H_behind_of
  have H_late_order : Has P w K mg base 6 "late_order" ["what", "index"] 2 (m_late_order N) := ⟨_, _, PySem.W.mg_of X G a_late_order, F_late_order.kp, bd_late_order, G_late_order⟩
  have G_ahead_of := ok_ahead_of (P := P) (w := w) (base := base) N F_ahead_of B H_is_ahead H_lot_of (fun v ⟨_, _, _, _, lk, e⟩ => by rw [l_ahead_of] at lk; cases lk; exact e.symm) (tbs (cc_ahead_of, PP_ahead_of) (by simp)) ti_ahead_of to_ahead_of
  have H_ahead_of : Has P w K mg base 4 "ahead_of" ["what", "index"] 2 (m_ahead_of N) := ⟨_, _, PySem.W.mg_of X G a_ahead_of, F_ahead_of.kp, bd_ahead_of, G_ahead_of⟩
  have G_early_order := ok_early_order (P := P) (w := w) (base := base) N F_early_order B H_ahead_of H_split_order
  have H_early_order : Has P w K mg base 6 "early_order" ["what", "index"] 2 (m_early_order N) := ⟨_, _, PySem.W.mg_of X G a_early_order, F_early_order.kp, bd_early_order, G_early_order⟩
  have G_law_by_begins := ok_law_by_begins (P := P) (w := w) (base := base) N F_law_by_begins B 
  have H_law_by_begins : Has P w K mg base 1 "_law_by_begins" ["_law_calls", "_law_lot"] 2 (m_law_by_begins N) := ⟨_, _, PySem.W.mg_of X G a_law_by_begins, F_law_by_begins.kp, bd_law_by_begins, G_law_by_begins⟩
  have G_law_stretch := ok_law_stretch (P := P) (w := w) (base := base) N F_law_stretch B H_law_one
  have H_law_stretch : Has P w K mg base 3 "_law_stretch" ["_law_bag_here", "_law_moment", "_law_way"] 3 (m_law_stretch N) := ⟨_, _, PySem.W.mg_of X G a_law_stretch, F_law_stretch.kp, bd_law_stretch, G_law_stretch⟩
  have G_law_rest := ok_law_rest (P := P) (w := w) (base := base) N F_law_rest B 
  have H_law_rest : Has P w K mg base 1 "_law_rest" ["_law_number", "_law_prime"] 2 (m_law_rest N) := ⟨_, _, PySem.W.mg_of X G a_law_rest, F_law_rest.kp, bd_law_rest, G_law_rest⟩
  have G_law_comes_to := ok_law_comes_to (P := P) (w := w) (base := base) N F_law_comes_to B H_law_rest
  have H_law_comes_to : Has P w K mg base 2 "_law_comes_to" ["_law_house_here", "_law_world_here", "_law_sums_here"] 3 (m_law_comes_to N) := ⟨_, _, PySem.W.mg_of X G a_law_comes_to, F_law_comes_to.kp, bd_law_comes_to, G_law_comes_to⟩
  have G_law_sum := ok_law_sum (P := P) (w := w) (base := base) N F_law_sum B H_law_one H_law_take
  have H_law_sum : Has P w K mg base 3 "_law_sum" ["_law_bag_here", "_law_house_here"] 2 (m_law_sum N) := ⟨_, _, PySem.W.mg_of X G a_law_sum, F_law_sum.kp, bd_law_sum, G_law_sum⟩
  have G_law_plus := ok_law_plus (P := P) (w := w) (base := base) N F_law_plus B H_law_rest
  have H_law_plus : Has P w K mg base 2 "_law_plus" ["_law_house_here", "_law_row", "_law_many", "_law_other"] 4 (m_law_plus N) := ⟨_, _, PySem.W.mg_of X G a_law_plus, F_law_plus.kp, bd_law_plus, G_law_plus⟩
  have G_law_sums := ok_law_sums (P := P) (w := w) (base := base) N F_law_sums B H_law_sum H_law_one H_law_take H_law_plus
  have H_law_sums : Has P w K mg base 4 "_law_sums" ["_law_bag_here", "_law_house_here", "_law_many"] 3 (m_law_sums N) := ⟨_, _, PySem.W.mg_of X G a_law_sums, F_law_sums.kp, bd_law_sums, G_law_sums⟩
  have G_law_world := ok_law_world (P := P) (w := w) (base := base) N F_law_world B H_law_take
  have H_law_world : Has P w K mg base 2 "_law_world" ["_law_bag_here", "_law_house_here"] 2 (m_law_world N) := ⟨_, _, PySem.W.mg_of X G a_law_world, F_law_world.kp, bd_law_world, G_law_world⟩
  have G_law_plan := ok_law_plan (P := P) (w := w) (base := base) N F_law_plan B H_law_mixed H_law_stretch H_law_take H_law_comes_to H_law_one H_law_sums H_law_world
  have H_law_plan : Has P w K mg base 5 "_law_plan" ["_law_bag_here", "_law_house_here", "_law_most"] 3 (m_law_plan N) := ⟨_, _, PySem.W.mg_of X G a_law_plan, F_law_plan.kp, bd_law_plan, G_law_plan⟩
  have G_law_put := ok_law_put (P := P) (w := w) (base := base) N F_law_put B 
  have H_law_put : Has P w K mg base 1 "_law_put" ["_law_items", "_law_index", "_law_item"] 3 (m_law_put N) := ⟨_, _, PySem.W.mg_of X G a_law_put, F_law_put.kp, bd_law_put, G_law_put⟩
  have G_law_other_answer := ok_law_other_answer (P := P) (w := w) (base := base) N F_law_other_answer B H_law_alike H_law_one
  have H_law_other_answer : Has P w K mg base 3 "_law_other_answer" ["_law_bag_here", "_law_house_here", "_law_call"] 3 (m_law_other_answer N) := ⟨_, _, PySem.W.mg_of X G a_law_other_answer, F_law_other_answer.kp, bd_law_other_answer, G_law_other_answer⟩
  have G_law_bent_history := ok_law_bent_history (P := P) (w := w) (base := base) N F_law_bent_history B H_law_one H_law_put H_law_take H_law_other_answer
  have H_law_bent_history : Has P w K mg base 4 "_law_bent_history" ["_law_bag_here", "_law_history_here"] 2 (m_law_bent_history N) := ⟨_, _, PySem.W.mg_of X G a_law_bent_history, F_law_bent_history.kp, bd_law_bent_history, G_law_bent_history⟩
  have G_law_inverse := ok_law_inverse (P := P) (w := w) (base := base) N F_law_inverse B H_law_rest
  have H_law_inverse : Has P w K mg base 2 "_law_inverse" ["_law_prime", "_law_number"] 2 (m_law_inverse N) := ⟨_, _, PySem.W.mg_of X G a_law_inverse, F_law_inverse.kp, bd_law_inverse, G_law_inverse⟩
  have G_law_flat := ok_law_flat (P := P) (w := w) (base := base) N F_law_flat B 
  have H_law_flat : Has P w K mg base 1 "_law_flat" ["_law_row", "_law_many", "_law_index"] 3 (m_law_flat N) := ⟨_, _, PySem.W.mg_of X G a_law_flat, F_law_flat.kp, bd_law_flat, G_law_flat⟩
  have G_law_echelon := ok_law_echelon (P := P) (w := w) (base := base) N F_law_echelon B H_law_plus H_law_inverse H_law_flat
  have H_law_echelon : Has P w K mg base 3 "_law_echelon" ["_law_house_here", "_law_rows"] 2 (m_law_echelon N) := ⟨_, _, PySem.W.mg_of X G a_law_echelon, F_law_echelon.kp, bd_law_echelon, G_law_echelon⟩
  have G_law_given := ok_law_given (P := P) (w := w) (base := base) N F_law_given B H_law_plus H_law_echelon
  have H_law_given : Has P w K mg base 4 "_law_given" ["_law_house_here", "_law_rows", "_law_sums_here"] 3 (m_law_given N) := ⟨_, _, PySem.W.mg_of X G a_law_given, F_law_given.kp, bd_law_given, G_law_given⟩
  have G_law_answer := ok_law_answer (P := P) (w := w) (base := base) N F_law_answer B H_law_given
  have H_law_answer : Has P w K mg base 5 "_law_answer" ["_law_house_here", "_law_rows", "_law_deed_here"] 3 (m_law_answer N) := ⟨_, _, PySem.W.mg_of X G a_law_answer, F_law_answer.kp, bd_law_answer, G_law_answer⟩
  have G_law_answers_by := ok_law_answers_by (P := P) (w := w) (base := base) N F_law_answers_by B H_law_answer
  have H_law_answers_by : Has P w K mg base 6 "_law_answers_by" ["_law_house_here", "_law_deeds"] 2 (m_law_answers_by N) := ⟨_, _, PySem.W.mg_of X G a_law_answers_by, F_law_answers_by.kp, bd_law_answers_by, G_law_answers_by⟩
  have G_law_deed := ok_law_deed (P := P) (w := w) (base := base) N F_law_deed B H_law_take H_law_comes_to H_law_one
  have H_law_deed : Has P w K mg base 3 "_law_deed" ["_law_bag_here", "_law_house_here", "_law_sums_here", "_law_world_here"] 4 (m_law_deed N) := ⟨_, _, PySem.W.mg_of X G a_law_deed, F_law_deed.kp, bd_law_deed, G_law_deed⟩
  have G_law_history := ok_law_history (P := P) (w := w) (base := base) N F_law_history B H_law_take H_law_stretch H_law_mixed H_law_answers_by H_law_one H_law_deed H_law_sums H_law_world
  have H_law_history : Has P w K mg base 7 "_law_history" ["_law_bag_here", "_law_house_here", "_law_most"] 3 (m_law_history N) := ⟨_, _, PySem.W.mg_of X G a_law_history, F_law_history.kp, bd_law_history, G_law_history⟩
  have G_law_some_history := ok_law_some_history (P := P) (w := w) (base := base) N F_law_some_history B H_law_one H_law_bent_history H_law_history
  have H_law_some_history : Has P w K mg base 8 "_law_some_history" ["_law_bag_here", "_law_house_here", "_law_most"] 3 (m_law_some_history N) := ⟨_, _, PySem.W.mg_of X G a_law_some_history, F_law_some_history.kp, bd_law_some_history, G_law_some_history⟩
  have G_law_house := ok_law_house (P := P) (w := w) (base := base) N F_law_house B H_law_one
  have H_law_house : Has P w K mg base 3 "_law_house" ["_law_bag_here", "_law_most"] 2 (m_law_house N) := ⟨_, _, PySem.W.mg_of X G a_law_house, F_law_house.kp, bd_law_house, G_law_house⟩
  have G_law_bag := ok_law_bag (P := P) (w := w) (base := base) N F_law_bag B 
  have H_law_bag : Has P w K mg base 1 "_law_bag" ["_law_script"] 1 (m_law_bag N) := ⟨_, _, PySem.W.mg_of X G a_law_bag, F_law_bag.kp, bd_law_bag, G_law_bag⟩
  have G_law := ok_law (P := P) (w := w) (base := base) N F_law B H_law_far H_law_mixed H_law_is_order H_law_alike H_late_order H_early_order H_law_by_begins H_law_is_ahead H_law_one H_law_plan H_law_some_history H_law_house H_law_bag
  exact G_law
end FT

set_option autoImplicit false
/-! the law's draws -/
namespace FT
open PySem PySem.Spec PyProof.Rows L2 FM
local instance : Tbl := ⟨[]⟩
structure BagT where
  big : Int
  seed : Int
  at_ : Int
  cells : List Int
structure BagT.Ok (b : BagT) : Prop where
  big : 0 ≤ b.big
  seed : 0 ≤ b.seed ∧ b.seed < 2147483647
  at_ : 0 ≤ b.at_
  cells : b.cells.length ≤ 63
def bagC (b : BagT) : Cell := .lst [.int b.big, .int b.seed, .int b.at_, .lst (vi b.cells)]
/-- the bag is the first object of the lowest frame -/
def HB (s : S) : Prop := ∃ b : BagT, lk s 0 0 = some (bagC b) ∧ b.Ok
/-- s, its bag changed -/
def sb (s : S) (b : BagT) : S := up s 0 0 (bagC b)
theorem HB.len {s : S} (h : HB s) : 0 < s.length := by
  obtain ⟨b, e, _⟩ := h
  exact lk_lt e
theorem HB.push {s : S} (h : HB s) (fr : List Cell) : HB (fr :: s) := by
  have hl := h.len
  obtain ⟨b, e, o⟩ := h
  exact ⟨b, by rw [lk_push hl]; exact e, o⟩
theorem HB.sb {s : S} (h : HB s) {b : BagT} (o : b.Ok) : HB (sb s b) := by
  obtain ⟨b', e, _⟩ := h
  exact ⟨b, lk_up_same e, o⟩
theorem sb_push {s : S} (h : HB s) (fr : List Cell) (b : BagT) : FT.sb (fr :: s) b = fr :: FT.sb s b := up_push h.len
theorem sb_sb (s : S) (b b' : BagT) : FT.sb (FT.sb s b) b' = FT.sb s b' := up_up _ _ _ _ _
theorem sb_len (s : S) (b : BagT) : (FT.sb s b).length = s.length := up_length _ _ _ _
theorem cut_head (l : List Int) (k : Int) : ∃ c : Int, (cutL (vi l) (some k) none ++ [Val.int 0])[0]? = some (.int c) := by
  unfold cutL
  cases e : (List.drop (FM.sIx (vi l).length 0 (some k)) (vi l)).take (FM.sIx (vi l).length (vi l).length none - FM.sIx (vi l).length 0 (some k)) with
  | nil => exact ⟨0, rfl⟩
  | cons v r =>
    have hv : v ∈ vi l := List.mem_of_mem_drop (List.mem_of_mem_take (by rw [e]; exact List.mem_cons_self))
    obtain ⟨c, _, hc⟩ := List.mem_map.mp hv
    exact ⟨c, by rw [← hc]; rfl⟩
theorem cut_len {α : Type} (l : List α) (a b : Option Int) : (cutL l a b).length ≤ l.length := by
  unfold cutL; simp; omega
theorem ix_lst {s : S} {f n : Nat} {xs : List Val} (e : lk s f n = some (.lst xs)) (j : Int) : opIx s (.ref f n) (.int j) = (FM.ixN xs.length j).bind fun j => xs[j]? := by
  simp only [opIx, asQ, asL, e]
theorem set_lst {s : S} {f n : Nat} {xs : List Val} (e : lk s f n = some (.lst xs)) (j v : Int) : setL s (.ref f n) (.int j) (.int v) = (FM.ixN xs.length j).map fun m => up s f n (.lst (xs.set m (.int v))) := by
  simp only [setL, e]
  cases FM.ixN xs.length j <;> simp [below]
theorem opPow_1018 (s : S) : opPow s (.int 10) (.int 18) = some (.int 1000000000000000000) := rfl
def take1 : Sx := (sIf (tVal (eOp opEq (eOp opIx (eVar 0) (eC (.int 0))) (eC (.int 0)))) (sCons (sAsg (eOp opIx (eDead (fAdd (eDead (fSl (eOp opIx (eVar 0) (eC (.int 3))) (oSome (eOp opIx (eVar 0) (eC (.int 2)))) oNone)) (eDead (fLst (aCons (eC (.int 0)) aNil))))) (eC (.int 0))) (FM.gName 2))
    (sCons (sAugSub opAddI (eVar 0) (eC (.int 2)) (eC (.int 1)))
    (sCons (sIf (tVal (eOp opGe (eVar 2) (eOp opPow (eC (.int 10)) (eC (.int 18))))) (sCons (sSub (eVar 0) (eC (.int 0)) (eVar 2))
    sNil) sNil)
    (sCons (sAsg (eOp opAdd (eOp opAdd (eOp opMul (eOp opIx (eVar 0) (eC (.int 1))) (eC (.int 48271))) (eOp opMod (eCall bInt (aCons (eVar 2) aNil)) (eC (.int 2147483647)))) (eOp opMul (eC (.int 7919)) (eOp opIx (eVar 0) (eC (.int 2))))) (FM.gName 3))
    (sCons (sSub (eVar 0) (eC (.int 1)) (eOp opMod (eCall bInt (aCons (eVar 3) aNil)) (eC (.int 2147483647))))
    sNil))))) sNil)
theorem bag0 {s : S} {b : BagT} (e : lk s 0 0 = some (bagC b)) : opIx s (.ref 0 0) (.int 0) = some (.int b.big) := by rw [ix_lst e]; rfl
theorem bag1 {s : S} {b : BagT} (e : lk s 0 0 = some (bagC b)) : opIx s (.ref 0 0) (.int 1) = some (.int b.seed) := by rw [ix_lst e]; rfl
theorem bag2 {s : S} {b : BagT} (e : lk s 0 0 = some (bagC b)) : opIx s (.ref 0 0) (.int 2) = some (.int b.at_) := by rw [ix_lst e]; rfl
theorem bag3 {s : S} {b : BagT} (e : lk s 0 0 = some (bagC b)) : opIx s (.ref 0 0) (.int 3) = some (.lst (vi b.cells)) := by rw [ix_lst e]; rfl
theorem bagN2 {s : S} {b : BagT} (e : lk s 0 0 = some (bagC b)) : opIxN s (.ref 0 0) (.int 2) = some (.int b.at_) := by
  simp only [opIxN, asL, e, bagC]; rfl
theorem bagS0 {s : S} {b : BagT} (e : lk s 0 0 = some (bagC b)) (v : Int) : setL s (.ref 0 0) (.int 0) (.int v) = some (sb s { b with big := v }) := by rw [set_lst e]; rfl
theorem bagS1 {s : S} {b : BagT} (e : lk s 0 0 = some (bagC b)) (v : Int) : setL s (.ref 0 0) (.int 1) (.int v) = some (sb s { b with seed := v }) := by rw [set_lst e]; rfl
theorem bagS2 {s : S} {b : BagT} (e : lk s 0 0 = some (bagC b)) (v : Int) : setL s (.ref 0 0) (.int 2) (.int v) = some (sb s { b with at_ := v }) := by rw [set_lst e]; rfl
theorem lk_sb {s : S} {b b' : BagT} (e : lk s 0 0 = some (bagC b)) : lk (sb s b') 0 0 = some (bagC b') := lk_up_same e
theorem take1_run {s : S} {b : BagT} (e : lk s 0 0 = some (bagC b)) (o : b.Ok) {many : Int} :
    ∃ (x y : Option Val) (b' : BagT), b'.Ok ∧ take1 [some (.ref 0 0), some (.int many), none, none, none, none, none] s = .nx [some (.ref 0 0), some (.int many), x, y, none, none, none] (sb s b') := by
  by_cases hb : b.big = 0
  · obtain ⟨c, hc⟩ := cut_head b.cells b.at_
    have lc := cut_len (vi b.cells) (some b.at_) none
    have lc2 := o.cells
    rw [vi_len] at lc
    have lc3 : (cutL (vi b.cells) (some b.at_) none).length + 1 ≤ sizeLine := by unfold sizeLine; omega
    have hx : ∀ s : S, opIx s (.lst (cutL (vi b.cells) (some b.at_) none ++ [Val.int 0])) (.int 0) = some (.int c) := fun s => by
      simp only [opIx, asQ, asL]
      rw [show FM.ixN (cutL (vi b.cells) (some b.at_) none ++ [Val.int 0]).length 0 = some 0 by simp [FM.ixN]]
      exact hc
    have q1 : ∀ b', opIx (sb s b') (.ref 0 0) (.int 1) = some (.int b'.seed) := fun b' => bag1 (lk_sb e)
    have q2 : ∀ b', opIx (sb s b') (.ref 0 0) (.int 2) = some (.int b'.at_) := fun b' => bag2 (lk_sb e)
    have w0 : ∀ b' v, setL (sb s b') (.ref 0 0) (.int 0) (.int v) = some (sb (sb s b') { b' with big := v }) := fun b' v => bagS0 (lk_sb e) v
    have w1 : ∀ b' v, setL (sb s b') (.ref 0 0) (.int 1) (.int v) = some (sb (sb s b') { b' with seed := v }) := fun b' v => bagS1 (lk_sb e) v
    have p1 : ∀ (s : S) (i : Int), opMul s (.int i) (.int 48271) = some (.int (i * 48271)) := fun s i => opMul_r (by decide)
    have p2 : ∀ (s : S) (i : Int), opMul s (.int 7919) (.int i) = some (.int (7919 * i)) := fun s i => opMul_l (by decide)
    have p3 : ∀ (s : S) (i : Int), opMod s (.int i) (.int 2147483647) = some (.int (i % 2147483647)) := fun s i => opMod_int (by decide)
    have o2 := o.at_
    have o3 := o.seed
    by_cases hge : (1000000000000000000 : Int) ≤ c
    · simp [take1, bag0 e, hb, bag2 e, bag3 e, asL, asLn, lc3, hx, bagN2 e, opAddI, bagS2 e, opPow_1018, hge, q1, q2, w0, w1, p1, p2, p3, sb_sb]
      refine ⟨_, _, _, ?_, ⟨rfl, rfl⟩, rfl⟩
      exact ⟨by show (0 : Int) ≤ c; omega, ⟨Int.emod_nonneg _ (by decide), Int.emod_lt_of_pos _ (by decide)⟩, by show (0 : Int) ≤ b.at_ + 1; omega, lc2⟩
    · simp [take1, bag0 e, hb, bag2 e, bag3 e, asL, asLn, lc3, hx, bagN2 e, opAddI, bagS2 e, opPow_1018, hge, q1, q2, w0, w1, p1, p2, p3, sb_sb]
      refine ⟨_, _, _, ?_, ⟨rfl, rfl⟩, rfl⟩
      exact ⟨by show (0 : Int) ≤ 0; omega, ⟨Int.emod_nonneg _ (by decide), Int.emod_lt_of_pos _ (by decide)⟩, by show (0 : Int) ≤ b.at_ + 1; omega, lc2⟩
  · refine ⟨none, none, b, o, ?_⟩
    simp [take1, bag0 e, hb, sb]
    exact (up_self _ _ _ _ e).symm
theorem take_run (N : Nat) {s : S} (h : HB s) {many : Int} (hm : 0 < many) (hm2 : many < 2 ^ 30) :
    ∃ (v : Int) (b : BagT), b.Ok ∧ 0 ≤ v ∧ v < many ∧ m_law_take N [.ref 0 0, .int many] s = .ok (.val (.int v)) (sb s b) := by
  have hp := h.push []
  obtain ⟨b, e, o⟩ := hp
  obtain ⟨x, y, b1, o1, r1⟩ := take1_run e o (many := many)
  have e1 := lk_sb (b' := b1) e
  have push : ∀ b', FT.sb ([] :: s) b' = [] :: FT.sb s b' := fun b' => sb_push h [] b'
  have p1 : ∀ (s : S) (i : Int), opMul s (.int i) (.int 39373) = some (.int (i * 39373)) := fun s i => opMul_r (by decide)
  have p2 : ∀ (s : S) (i : Int), opMul s (.int i) (.int 30011) = some (.int (i * 30011)) := fun s i => opMul_r (by decide)
  have p3 : ∀ (s : S) (i : Int), opMod s (.int i) (.int many) = some (.int (i % many)) := fun s i => opMod_int hm
  have p4 : ∀ (s : S) (i : Int), opDiv s (.int i) (.int many) = some (.int (i / many)) := fun s i => opDiv_int hm hm2
  have p5 : ∀ (s : S) (i : Int), opMod s (.int i) (.int 1000000007) = some (.int (i % 1000000007)) := fun s i => opMod_int (by decide)
  have p6 : ∀ (s : S) (i : Int), opMod s (.int i) (.int 998244353) = some (.int (i % 998244353)) := fun s i => opMod_int (by decide)
  have p7 : ∀ (s : S) (i : Int), opDiv s (.int i) (.int 7) = some (.int (i / 7)) := fun s i => opDiv_int (by decide) (by decide)
  have p8 : ∀ (s : S) (i : Int), opMul s (.int (i % 1000000007)) (.int (i % 1000000007)) = some (.int (i % 1000000007 * (i % 1000000007))) := fun s i => opMul_r (by
    have := Int.emod_nonneg i (show (1000000007 : Int) ≠ 0 by decide)
    have := Int.emod_lt_of_pos i (show (0 : Int) < 1000000007 by decide)
    omega)
  have hd : ∀ r : Sx, (sCons take1 r) [some (.ref 0 0), some (.int many), none, none, none, none, none] ([] :: s) = r [some (.ref 0 0), some (.int many), x, y, none, none, none] (FT.sb ([] :: s) b1) := fun r => by
    rw [run_cons, r1]; rfl
  have st : m_law_take N [.ref 0 0, .int many] s = (match (b_law_take N) [some (.ref 0 0), some (.int many), none, none, none, none, none] ([] :: s) with
    | .rt v s1 => finish v s1
    | .nx _ s1 => finish .non s1
    | _ => .no) := rfl
  have un : b_law_take N = sCons take1 _ := rfl
  rw [st, un, hd]
  by_cases hb : 0 < b1.big
  · refine ⟨b1.big % many, { b1 with big := b1.big / many }, ⟨Int.ediv_nonneg o1.big (Int.le_of_lt hm), o1.seed, o1.at_, o1.cells⟩, Int.emod_nonneg _ (Int.ne_of_gt hm), Int.emod_lt_of_pos _ hm, ?_⟩
    simp [bag0 e1, hb, p3, p4, bagS0 e1, sb_sb]
    simp [push]
  · refine ⟨((b1.seed + 1) * 39373 % 1000000007) * ((b1.seed + 1) * 39373 % 1000000007) % 998244353 * 30011 % 998244353 / 7 % many, b1, o1, Int.emod_nonneg _ (Int.ne_of_gt hm), Int.emod_lt_of_pos _ hm, ?_⟩
    simp [bag0 e1, hb, bag1 e1, p1, p2, p3, p5, p6, p7, p8]
    simp [push]
theorem lk_top' {fr : List Cell} {s : S} {f n : Nat} (h : f = s.length) : lk (fr :: s) f n = fr[n]? := by subst h; exact lk_top
theorem up_top' {fr : List Cell} {s : S} {f n : Nat} {c : Cell} (h : f = s.length) : up (fr :: s) f n c = fr.set n c :: s := by subst h; exact up_top
theorem HB.self {s : S} (h : HB s) : ∃ b : BagT, b.Ok ∧ FT.sb s b = s := by
  obtain ⟨b, e, o⟩ := h
  exact ⟨b, o, up_self _ _ _ _ e⟩
theorem asL_sb {s : S} (h : HB s) (b : BagT) {X : Val} {xs : List Val} (hX : X ≠ .ref 0 0) (e : asL s X = some xs) : asL (FT.sb s b) X = some xs := by
  obtain ⟨b0, e0, _⟩ := h
  cases X <;> simp only [asL] at e ⊢ <;> try exact e
  rename_i f n
  split at e
  · rename_i ys el
    cases e
    have : ¬ (f = 0 ∧ n = 0) := fun ⟨h1, h2⟩ => hX (by rw [h1, h2])
    unfold FT.sb
    rw [lk_up e0, if_neg this, el]
  · cases e
theorem asQ_sb {s : S} (h : HB s) (b : BagT) {X : Val} {xs : List Val} (hX : X ≠ .ref 0 0) (e : asQ s X = some xs) : asQ (FT.sb s b) X = some xs := by
  cases X <;> simp only [asQ] at e ⊢ <;> first | exact e | exact asL_sb h b hX e
theorem pure_mem : ∀ {xs : List Val} {x : Val}, pureAll xs = true → x ∈ xs → FM.pure x = true
  | y :: ys, x, h, hx => by
    unfold pureAll at h
    simp only [Bool.and_eq_true] at h
    rcases List.mem_cons.mp hx with e | hx
    · rw [e]; exact h.1
    · exact pure_mem h.2 hx
theorem pureAll_of : ∀ {xs : List Val}, (∀ x ∈ xs, FM.pure x = true) → pureAll xs = true
  | [], _ => rfl
  | y :: ys, h => by
    unfold pureAll
    rw [h y List.mem_cons_self, pureAll_of fun x hx => h x (List.mem_cons_of_mem _ hx)]; rfl
/-- one of the things -/
theorem one_run (N : Nat) {s : S} (h : HB s) {X : Val} {xs : List Val} (hX : X ≠ .ref 0 0) (e : asQ s X = some xs) (hp : pureAll xs = true) (h0 : xs ≠ []) (hl : xs.length < 1000) :
    ∃ x ∈ xs, ∃ b : BagT, b.Ok ∧ m_law_one N [.ref 0 0, X] s = .ok (.val x) (FT.sb s b) := by
  have hpos : 0 < xs.length := List.length_pos_iff.mpr h0
  obtain ⟨v, b, o, v0, v1, r⟩ := take_run N (h.push []) (many := xs.length) (by omega) (by omega)
  rw [sb_push h] at r
  have e' : asQ ([] :: s) X = some xs := asQ_push e
  have e2 : asQ ([] :: FT.sb s b) X = some xs := asQ_push (asQ_sb h b hX e)
  have hv : v.toNat < xs.length := by omega
  have bl : bLen ([] :: s) [X] = some (.int xs.length) := by
    cases X <;> first | (simp [bLen, e']; done) | (simp [asQ, asL] at e; done)
  have ix : opIx ([] :: FT.sb s b) X (.int v) = some xs[v.toNat] := by
    simp only [opIx, e2]
    rw [show FM.ixN xs.length v = some v.toNat by unfold FM.ixN; rw [if_pos v0, if_pos v1]]
    exact List.getElem?_eq_getElem hv
  have hm := List.getElem_mem hv
  have rp := retOf_pure (d := (FT.sb s b).length) (fr := []) (pure_mem hp hm)
  refine ⟨xs[v.toNat], hm, b, o, ?_⟩
  simp [m_law_one, b_law_one, mkFn, bl, r, ix, rp]
theorem ins_perm (x : Val) (l : List Val) (k : Nat) : (l.take k ++ [x] ++ l.drop k).Perm (l ++ [x]) := by
  have h : (l.take k ++ [x] ++ l.drop k).Perm (l.take k ++ (l.drop k ++ [x])) := by
    rw [List.append_assoc]
    exact List.Perm.append_left _ List.perm_append_comm
  rw [← List.append_assoc, List.take_append_drop] at h
  exact h
theorem mixed_loop (N : Nat) {X : Val} {keep : S → Bool} : ∀ (xs found : List Val) (s : S) (y : Option Val), HB s → (∀ (fr : List Cell) (b : BagT), keep (fr :: FT.sb s b) = true) → found.length + xs.length < 1000 →
    ∃ (ys : List Val) (b : BagT) (y' : Option Val), b.Ok ∧ ys.Perm (found ++ xs) ∧
      forL keep (FM.gName 3) (sCons (sExpr (eChg cInsert (eVar 2) (aCons (eFn (m_law_take N) (aCons (eVar 0) (aCons (eOp opAdd (eCall bLen (aCons (eVar 2) aNil)) (eC (.int 1))) aNil))) (aCons (eVar 3) aNil)))) sNil)
        xs [some (.ref 0 0), some X, some (.ref s.length 0), y] ([.lst found] :: s) = .nx [some (.ref 0 0), some X, some (.ref s.length 0), y'] ([.lst ys] :: FT.sb s b)
  | [], found, s, y, h, hk, hl => by
    obtain ⟨b, o, e⟩ := h.self
    have k := hk [.lst found] b
    rw [e] at k
    exact ⟨found, b, y, o, by simp, by rw [e]; simp [forL, k]⟩
  | x :: xs, found, s, y, h, hk, hl => by
    simp only [List.length_cons] at hl
    obtain ⟨b0, o0, e0⟩ := h.self
    have k := hk [.lst found] b0
    rw [e0] at k
    obtain ⟨v, b, o, v0, v1, r⟩ := take_run N (h.push [.lst found]) (many := found.length + 1) (by omega) (by omega)
    rw [sb_push h] at r
    have h' := h.sb o
    have el : (FT.sb s b).length = s.length := sb_len s b
    obtain ⟨ys, b', y', o', p', r'⟩ := mixed_loop N (X := X) (keep := keep) xs (found.take v.toNat ++ [x] ++ found.drop v.toNat) (FT.sb s b) (some x) h' (fun fr b' => by rw [sb_sb]; exact hk fr b') (by simp; omega)
    rw [sb_sb, el] at r'
    refine ⟨ys, b', y', o', p'.trans ?_, ?_⟩
    · have := (ins_perm x found v.toNat).append_right xs
      simpa using this
    · have l1 : lk ([.lst found] :: s) s.length 0 = some (.lst found) := lk_top
      have l2 : lk ([.lst found] :: FT.sb s b) s.length 0 = some (.lst found) := lk_top' el.symm
      have u2 : ∀ c, up ([.lst found] :: FT.sb s b) s.length 0 c = [c] :: FT.sb s b := fun c => up_top' el.symm
      have c1 : found.length < sizeLine ∧ 0 ≤ v ∧ v < 2 ^ 63 := ⟨by unfold sizeLine; omega, v0, by omega⟩
      have bl : bLen ([.lst found] :: s) [.ref s.length 0] = some (.int found.length) := by simp [bLen, asQ, asL, l1]
      have ci : cInsert ([.lst found] :: FT.sb s b) [.int v, x] found = some (found.take v.toNat ++ [x] ++ found.drop v.toNat) := by
        show (if found.length < sizeLine ∧ 0 ≤ v ∧ v < 2 ^ 63 then some (found.take v.toNat ++ [x] ++ found.drop v.toNat) else none) = _
        rw [if_pos c1]
      have ch : chg ([.lst found] :: FT.sb s b) (.ref s.length 0) (cInsert ([.lst found] :: FT.sb s b) [.int v, x]) [.int v, x] = .ok .non ([.lst (found.take v.toNat ++ [x] ++ found.drop v.toNat)] :: FT.sb s b) := by
        simp only [chg, l2, ci]
        rw [if_pos (.inl (by simp [el])), u2]
      simp only [forL, k, if_true, run_gname]
      simp [isL, asL, l1, bl, r, ch]
      simpa using r'
theorem mixed_run (N : Nat) {s : S} (h : HB s) {X : Val} {xs : List Val} (hX : X ≠ .ref 0 0) (e : asQ s X = some xs) (hp : pureAll xs = true) (hl : xs.length < 1000) :
    ∃ (ys : List Val) (b : BagT), b.Ok ∧ ys.Perm xs ∧ m_law_mixed N [.ref 0 0, X] s = .ok (.cell (.lst ys)) (FT.sb s b) := by
  obtain ⟨ys, b, y', o, p, r⟩ := mixed_loop N (X := X) (keep := still X xs) xs [] s none h (fun fr b => still_of (asQ_push (asQ_sb h b hX e))) (by simpa using hl)
  have p' : ys.Perm xs := by simpa using p
  have el : (FT.sb s b).length = s.length := sb_len s b
  have rc : retOf (FT.sb s b).length [.lst ys] (.ref s.length 0) = some (.cell (.lst ys)) := by
    rw [el]
    exact retOf_cell rfl (pureAll_of fun x hx => pure_mem hp (p'.mem_iff.mp hx))
  have e1 : asQ ([.lst []] :: s) X = some xs := asQ_push e
  refine ⟨ys, b, o, p', ?_⟩
  simp [m_law_mixed, b_law_mixed, l1_law_mixed, mkFn, e1, r, rc]
theorem perm_ints : ∀ {ys : List Val} {l : List Int}, ys.Perm (vi l) → ∃ l' : List Int, l'.Perm l ∧ ys = vi l' := by
  intro ys l h
  have : ∀ y ∈ ys, ∃ k, y = .int k := fun y hy => by
    obtain ⟨k, _, e⟩ := List.mem_map.mp (h.mem_iff.mp hy)
    exact ⟨k, e.symm⟩
  let back : Val → Int := fun v => match v with | .int k => k | _ => 0
  have hb : ∀ l : List Int, (vi l).map back = l := fun l => by
    unfold vi; rw [List.map_map]; exact List.map_id'' (fun _ => rfl) l
  refine ⟨ys.map back, by have := h.map back; rwa [hb] at this, ?_⟩
  unfold vi
  rw [List.map_map]
  conv => lhs; rw [← List.map_id ys]
  exact List.map_congr_left fun y hy => by
    obtain ⟨k, rfl⟩ := this y hy
    rfl
theorem mem_rg {m : Nat} {i : Int} : i ∈ rg m ↔ 0 ≤ i ∧ i < m := by
  unfold rg
  simp only [List.mem_map, List.mem_range]
  constructor
  · rintro ⟨k, hk, rfl⟩; omega
  · rintro ⟨h0, h1⟩; exact ⟨i.toNat, by omega, by omega⟩
/-! ### alike -/
mutual
theorem lay_of_pure : ∀ v : Val, FM.pure v = true → (toD v).canLay0 = true
  | .non, _ => by simp [toD, PyData.canLay0]
  | .bl _, _ => by simp [toD, PyData.canLay0]
  | .int _, _ => by simp [toD, PyData.canLay0]
  | .str _, h => by unfold FM.pure at h; simpa [toD, PyData.canLay0] using h
  | .tup xs, h => by unfold FM.pure at h; simpa [toD, PyData.canLay0] using layAll_of_pure xs h
  | .lst xs, h => by unfold FM.pure at h; simpa [toD, PyData.canLay0] using layAll_of_pure xs h
  | .scr xs, h => by unfold FM.pure at h; simpa [toD, PyData.canLay0] using layAll_of_pure xs h
  | .dct _ _, h => by unfold FM.pure at h; cases h
  | .ref _ _, h => by unfold FM.pure at h; cases h
theorem layAll_of_pure : ∀ v : List Val, pureAll v = true → PyData.canLayAll0 (toDs v) = true
  | [], _ => by simp [toDs, PyData.canLayAll0]
  | x :: xs, h => by
    unfold pureAll at h
    simp only [Bool.and_eq_true] at h
    simp [toDs, PyData.canLayAll0, lay_of_pure x h.1, layAll_of_pure xs h.2]
end
theorem veq_refl {v : Val} (h : FM.pure v = true) : veq v v = true := PySem.SeqAt.eqv_refl _ (lay_of_pure v h)
theorem opEq_refl {s : S} {v : Val} (h : FM.pure v = true) (hd : (toD v).depth ≤ 64) : opEq s v v = some (.bl true) := by
  unfold opEq
  split
  · simp
  · simp only [res_pure h, veq_refl h]
    rw [if_pos (by simp [shallow, hd])]
theorem alike_run (N : Nat) {s : S} {v : Val} {z : PySem.Str} (h : FM.pure v = true) (hd : (toD v).depth ≤ 64) (hr : ∀ s, bRepr s [v] = some (.str z)) : m_law_alike N [v, v] s = .ok (.val (.bl true)) s := by
  have e1 := opEq_refl (s := [] :: s) h hd
  have e2 : opEq ([] :: s) (.str z) (.str z) = some (.bl true) := by simp [opEq]
  simp [m_law_alike, b_law_alike, mkFn, e1, hr, e2]
theorem repr_ok {v : Val} (h : FM.pure v = true) (hs : (toD v).showable = true) (hl : (toD v).shown.length ≤ sizeLine) (hd : (toD v).depth ≤ 64) (s : S) : bRepr s [v] = some (.str (toD v).shown) := by
  simp only [bRepr, res_pure h]
  rw [if_pos ⟨hs, hl, hd⟩]
theorem alike_bl (N : Nat) (s : S) (a : Bool) : m_law_alike N [.bl a, .bl a] s = .ok (.val (.bl true)) s :=
  alike_run N rfl (by simp [toD, PyData.depth]) (repr_ok rfl (by simp [toD, PyData.showable]) (by cases a <;> decide) (by simp [toD, PyData.depth]))
theorem alike_bls2 (N : Nat) (s : S) (a b : Bool) : m_law_alike N [.lst [.bl a, .bl b], .lst [.bl a, .bl b]] s = .ok (.val (.bl true)) s :=
  alike_run N rfl (by simp [toD, toDs, PyData.depth, PyData.depthAll]) (repr_ok rfl (by simp [toD, toDs, PyData.showable, PyData.showableAll]) (by cases a <;> cases b <;> decide) (by simp [toD, toDs, PyData.depth, PyData.depthAll]))
theorem alike_bls3 (N : Nat) (s : S) (a b c : Bool) : m_law_alike N [.lst [.bl a, .bl b, .bl c], .lst [.bl a, .bl b, .bl c]] s = .ok (.val (.bl true)) s :=
  alike_run N rfl (by simp [toD, toDs, PyData.depth, PyData.depthAll]) (repr_ok rfl (by simp [toD, toDs, PyData.showable, PyData.showableAll]) (by cases a <;> cases b <;> cases c <;> decide) (by simp [toD, toDs, PyData.depth, PyData.depthAll]))
end FT

set_option autoImplicit false
/-! the law's elimination runs -/
namespace FT
open PySem PySem.Spec PyProof.Rows L2 FM LN
local instance : Tbl := ⟨[]⟩
theorem small_p {p : Int} (h : Pr p) : 0 < p ∧ p < 2 ^ 30 := by have := h.pos; omega
theorem rest_run (N : Nat) (s : S) {p : Int} (hp : Pr p) (x : Int) : m_law_rest N [.int x, .int p] s = .ok (.val (.int (x % p))) s := by
  obtain ⟨h0, h1⟩ := small_p hp
  have e1 : opDiv ([] :: s) (.int x) (.int p) = some (.int (x / p)) := opDiv_int h0 h1
  have e2 : opMul ([] :: s) (.int (x / p)) (.int p) = some (.int (x / p * p)) := opMul_sm (by omega) (by omega)
  have e3 : x - x / p * p = x % p := by rw [Int.emod_def, Int.mul_comm]
  simp [m_law_rest, b_law_rest, mkFn, e1, e2, e3]
theorem plus_run (N : Nat) {s : S} {p : Int} (hp : Pr p) (n : Nat) {X Y : Val} {a b : List Int} {k : Int} (hX : asQ s X = some (vi a)) (hY : asQ s Y = some (vi b)) (hk : -(2 ^ 60) < k) (hk2 : k < 2 ^ 60) :
    m_law_plus N [hv p n, X, .int k, Y] s = .ok (.cell (.lst (vi (addm p a k b)))) s := by
  have hX' : asQ ([] :: s) X = some (vi a) := asQ_push hX
  have hY' : asQ ([] :: s) Y = some (vi b) := asQ_push hY
  have kp : (still X (vi a) ([] :: s) && still Y (vi b) ([] :: s)) = true := by rw [still_of hX', still_of hY']; rfl
  have comp : ∀ ρ : FM.Env, ρ = [some (hv p n), some X, some (.int k), some Y, none, none] → compL (fun s => still X (vi a) s && still Y (vi b) s) (FM.gTup [FM.gName 4, FM.gName 5]) tYes (eFn (m_law_rest N) (aCons (eOp opAdd (eVar 4) (eOp opMul (eVar 2) (eVar 5))) (aCons (eOp opIx (eVar 0) (eC (.int 0))) aNil))) ρ
      ((a.zip b).map fun q => Val.tup [.int q.1, .int q.2]) [] ([] :: s) = .ok ((a.zip b).map fun q => .int ((q.1 + k * q.2) % p)) ([] :: s) := fun ρ hρ =>
    compL_all (fun q : Int × Int => Val.tup [.int q.1, .int q.2]) _ kp (a.zip b) fun q _ => by
      subst hρ
      refine ⟨_, rfl, ?_⟩
      simp [opMul_sml hk hk2, rest_run N _ hp]
  have e : ((a.zip b).map fun q => Val.int ((q.1 + k * q.2) % p)) = vi (addm p a k b) := by simp [vi, addm]
  have rc : retOf s.length [.lst (vi (addm p a k b))] (.ref s.length 0) = some (.cell (.lst (vi (addm p a k b)))) := retOf_cell rfl (pureAll_vi _)
  simp [m_law_plus, b_law_plus, mkFn, hX', hY', vzip, FM.wipe, comp _ rfl, e, pushC, rc]
theorem inverse_run (N : Nat) (s : S) {p x : Int} (hp : Pr p) (h0 : 0 < x) (h1 : x < p) : m_law_inverse N [.int p, .int x] s = .ok (.val (.int (inv p x))) s := by
  have hp2 := hp.pos
  have comp : compL (fun _ => true) (FM.gName 2) (tVal (eOp opEq (eFn (m_law_rest N) (aCons (eOp opMul (eVar 2) (eVar 1)) (aCons (eVar 0) aNil))) (eC (.int 1)))) (eVar 2) [some (.int p), some (.int x), none] (rangeV 1 (p - 1).toNat) [] ([] :: s)
      = .ok (((List.range (p - 1).toNat).filter fun (i : Nat) => decide ((1 + (i : Int)) * x % p = 1)).map fun (i : Nat) => .int (1 + (i : Int))) ([] :: s) :=
    compL_pick (fun i : Nat => Val.int (1 + (i : Int))) (fun i : Nat => decide ((1 + (i : Int)) * x % p = 1)) (fun i : Nat => .int (1 + (i : Int))) rfl (List.range (p - 1).toNat) fun i hi => by
      have hi := List.mem_range.mp hi
      refine ⟨_, rfl, ?_, fun _ => by simp⟩
      have e1 : ∀ s : S, opMul s (.int (1 + (i : Int))) (.int x) = some (.int ((1 + (i : Int)) * x)) := fun s => opMul_sm (by omega) (by omega)
      simp [e1, rest_run N _ hp]
  have tab : ∀ p ∈ [2, 3, 5, (7 : Int)], ∀ x ∈ [1, 2, 3, 4, 5, (6 : Int)], x < p → (((List.range (p - 1).toNat).filter fun (i : Nat) => decide ((1 + (i : Int)) * x % p = 1)).map fun (i : Nat) => (1 + (i : Int))) = [inv p x] := by decide
  have hp' := hp
  unfold Pr at hp'
  have e := tab p (by simp; omega) x (by simp; omega) h1
  have e2 : (((List.range (p - 1).toNat).filter fun (i : Nat) => decide ((1 + (i : Int)) * x % p = 1)).map fun (i : Nat) => Val.int (1 + (i : Int))) = [.int (inv p x)] := by
    have := congrArg (List.map Val.int) e
    simpa [Function.comp_def] using this
  rw [e2] at comp
  have c1 : (p - 1 ≤ (sizeLine : Int)) := by unfold sizeLine; omega
  have hA : ((-1152921504606846976 : Int) < p ∧ p < 1152921504606846976 ∧ p - 1 ≤ (sizeLine : Int)) := ⟨by omega, by omega, c1⟩
  have ix0 : ∀ s : S, opIx s (.lst [.int (inv p x)]) (.int 0) = some (.int (inv p x)) := fun s => rfl
  rw [show (p - 1).toNat = p.toNat - 1 by omega] at comp
  simp [m_law_inverse, b_law_inverse, mkFn, hA, FM.wipe, comp, ix0]
/-- the combination of one row -/
def unit (m i : Nat) : List Int := (List.range m).map fun j => if j = i then 1 else 0
theorem unit_len (m i : Nat) : (unit m i).length = m := by simp [unit]
theorem flat_run (N : Nat) (s : S) (r : List Int × Int) {m i : Nat} (hm : m < 1000) (hl : r.1.length < 1000) : m_law_flat N [rv r, .int m, .int i] s = .ok (.cell (.lst (vi (sn r ++ unit m i)))) s := by
  have comp : compL (fun _ => true) (FM.gName 3) tYes (eCall bInt (aCons (eOp opEq (eVar 3) (eVar 2)) aNil)) [some (rv r), some (.int m), some (.int i), none] (rangeV 0 m) [] ([] :: s) = .ok ((List.range m).map fun j => .int (if j = i then 1 else 0)) ([] :: s) :=
    compL_all (fun j : Nat => Val.int (0 + (j : Int))) _ rfl (List.range m) fun j _ => by
      refine ⟨_, rfl, ?_⟩
      by_cases h : j = i
      · simp [h, bInt]
      · have : ¬ ((j : Int) = i) := by omega
        simp [h, this, bInt]
  have e : ((List.range m).map fun j => Val.int (if j = i then 1 else 0)) = vi (unit m i) := by simp [vi, unit]
  rw [e] at comp
  have c0 : ((-1152921504606846976 : Int) < (m : Int) ∧ (m : Int) ≤ (sizeLine : Int)) := by unfold sizeLine; omega
  have c1 : r.1.length + 1 ≤ sizeLine := by unfold sizeLine; omega
  have c2 : r.1.length + 1 + (unit m i).length ≤ sizeLine := by rw [unit_len]; unfold sizeLine; omega
  have e3 : vi r.1 ++ Val.int r.2 :: vi (unit m i) = vi (sn r ++ unit m i) := by simp [sn]
  have rc : retOf s.length [.lst (vi (sn r ++ unit m i))] (.ref s.length 0) = some (.cell (.lst (vi (sn r ++ unit m i)))) := retOf_cell rfl (pureAll_vi _)
  simp only [m_law_flat, b_law_flat, mkFn]
  simp [c0, c1, c2, FM.wipe, comp, asLn, asL, pushC, e3, -vi_append]
  rw [rc]; rfl
/-! ### echelon -/
/-- a level as the law keeps it -/
def lV (l : Nat × List Int) : Val := .tup [.int l.1, .lst (vi l.2)]
theorem pure_lV (l : Nat × List Int) : FM.pure (lV l) = true := by simp [lV, FM.pure, pureAll]
theorem at0_bound {p : Int} (hp : Pr p) {v : List Int} (h : InR p v) (i : Nat) : -(2 ^ 60) < -at0 v i ∧ -at0 v i < 2 ^ 60 := by
  have := hp.pos
  have := h.at (by omega) i
  omega
theorem ech_inner (N : Nat) {p : Int} (hp : Pr p) (n : Nat) {L : Nat} : ∀ (ls : Lv) (v : List Int) (ρ : FM.Env) (s : S) (keep : S → Bool) (A B C D E F : Option Val) (x y : Option Val), keep s = true → v.length = L → InR p v → (∀ l ∈ ls, l.2.length = L ∧ l.1 < L) →
    ∃ x' y', forL keep (FM.gTup [FM.gName 6, FM.gName 7]) (l1_law_echelon N) (ls.map lV) [some (hv p n), A, B, C, D, some (.lst (vi v)), x, y, F, E] s = .nx [some (hv p n), A, B, C, D, some (.lst (vi (red p ls v))), x', y', F, E] s
  | [], v, ρ, s, keep, A, B, C, D, E, F, x, y, hk, _, _, _ => ⟨x, y, by simp [forL, hk, red]⟩
  | l :: ls, v, ρ, s, keep, A, B, C, D, E, F, x, y, hk, hv', hi, hl => by
    obtain ⟨h1, h2⟩ := hl l List.mem_cons_self
    have b := at0_bound hp hi l.1
    have e := plus_run N (s := s) hp n (X := .lst (vi v)) (Y := .lst (vi l.2)) (k := -at0 v l.1) rfl rfl b.1 b.2
    have ix := ix_vi s (X := .lst (vi v)) rfl (i := l.1) (by omega)
    have len : (addm p v (-at0 v l.1) l.2).length = L := by rw [addm_len (by omega)]; exact hv'
    obtain ⟨x', y', r⟩ := ech_inner N hp n ls (addm p v (-at0 v l.1) l.2) ρ s keep A B C D E F (some (.int l.1)) (some (.lst (vi l.2))) hk len (addm_in (by have := hp.pos; omega) _ _) fun q hq => hl q (List.mem_cons_of_mem _ hq)
    refine ⟨x', y', ?_⟩
    rw [red_cons, ← r]
    simp [forL, hk, lV, l1_law_echelon_ap, ix, e]
theorem bLen_asQ {s : S} {X : Val} {xs : List Val} (e : asQ s X = some xs) : bLen s [X] = some (.int xs.length) := by
  cases X <;> first | (simp [bLen, e]; done) | (simp [asQ, asL] at e; done)
/-- the flat rows from an index on -/
def flats (m : Nat) (k : Nat) (rs : List (List Int × Int)) : List (List Int) := (rs.zipIdx k).map fun q => sn q.1 ++ unit m q.2
theorem flats_cons (m k : Nat) (r : List Int × Int) (rs : List (List Int × Int)) : flats m k (r :: rs) = (sn r ++ unit m k) :: flats m (k + 1) rs := by simp [flats, List.zipIdx_cons]
/-- good rows -/
def RowOk (p : Int) (n : Nat) (r : List Int × Int) : Prop := r.1.length = n ∧ InR p r.1 ∧ 0 ≤ r.2 ∧ r.2 < p
theorem sn_len {p : Int} {n : Nat} {r : List Int × Int} (h : RowOk p n r) : (sn r).length = n + 1 := by simp [sn, h.1]
theorem sn_in {p : Int} {n : Nat} {r : List Int × Int} (h : RowOk p n r) : InR p (sn r) := by
  intro x hx
  rcases List.mem_append.mp hx with hx | hx
  · exact h.2.1 x hx
  · rw [List.mem_singleton.mp hx]; exact h.2.2
theorem unit_in {p : Int} (hp : 1 < p) (m i : Nat) : InR p (unit m i) := by
  intro x hx
  obtain ⟨j, _, rfl⟩ := List.mem_map.mp hx
  split <;> omega
theorem flat_ok {p : Int} (hp : Pr p) {n m k : Nat} {r : List Int × Int} (h : RowOk p n r) : (sn r ++ unit m k).length = n + 1 + m ∧ InR p (sn r ++ unit m k) := by
  have := hp.pos
  refine ⟨by rw [List.length_append, sn_len h, unit_len], fun x hx => ?_⟩
  rcases List.mem_append.mp hx with hx | hx
  · exact sn_in h x hx
  · exact unit_in (by omega) m k x hx
theorem flats_ok {p : Int} (hp : Pr p) {n m : Nat} : ∀ (rs : List (List Int × Int)) (k : Nat), (∀ r ∈ rs, RowOk p n r) → ∀ v ∈ flats m k rs, v.length = n + 1 + m ∧ InR p v
  | [], _, _, v, hv => by simp [flats] at hv
  | r :: rs, k, h, v, hv => by
    rw [flats_cons] at hv
    rcases List.mem_cons.mp hv with e | hv
    · rw [e]; exact flat_ok hp (h r List.mem_cons_self)
    · exact flats_ok hp rs (k + 1) (fun q hq => h q (List.mem_cons_of_mem _ hq)) v hv
theorem ech_loop (N : Nat) {p : Int} (hp : Pr p) {n m : Nat} (hn : n < 100) (hm : m < 500) {s : S} {X : Val} {R : List (List Int × Int)} (hX : asQ s X = some (R.map rv)) (hR : R.length = m) {keep : S → Bool} (hk : ∀ fr, keep (fr :: s) = true) :
    ∀ (rs : List (List Int × Int)) (k : Nat) (vs : List (List Int)) (ls : Lv) (a b c d e f g : Option Val), (∀ r ∈ rs, RowOk p n r) → EI p n (n + 1 + m) vs (ls, []) → ls.length + rs.length ≤ m → ((flats m k rs).foldl (stepE p n) (ls, [])).2 = [] →
      ∃ a' b' c' d' e' f' g', forL keep (FM.gTup [FM.gName 3, FM.gName 4]) (l2_law_echelon N) ((rs.zipIdx k).map fun q => Val.tup [.int q.2, rv q.1]) [some (hv p n), some X, some (.ref s.length 0), a, b, c, d, e, f, g] ([.lst (ls.map lV)] :: s)
        = .nx [some (hv p n), some X, some (.ref s.length 0), a', b', c', d', e', f', g'] ([.lst (((flats m k rs).foldl (stepE p n) (ls, [])).1.map lV)] :: s) := by
  intro rs
  induction rs with
  | nil => intro k vs ls a b c d e f g _ _ _ _; exact ⟨a, b, c, d, e, f, g, by simp [forL, hk, flats]⟩
  | cons r rs ih0 =>
    intro k vs ls a b c d e f g hr ei hls hsp
    have hp2 := hp.pos
    obtain ⟨fl, fi⟩ := flat_ok (m := m) (k := k) hp (hr r List.mem_cons_self)
    rw [flats_cons, List.foldl_cons] at hsp
    have ei2 := ei_step hp (by omega) ei fl fi
    have hlen : ∀ l ∈ ls, l.2.length = n + 1 + m ∧ l.1 < n + 1 + m := fun l hl => ⟨ei.steps.len l hl, by have := ei.low l hl; omega⟩
    have wl : (red p ls (sn r ++ unit m k)).length = n + 1 + m := by rw [red_len ls _ fun l hl => by rw [fl]; exact (hlen l hl).1, fl]
    have wi : InR p (red p ls (sn r ++ unit m k)) := red_in (by omega) _ _ fi
    cases hz : fnz ((red p ls (sn r ++ unit m k)).take n) with
    | none =>
      have hst : stepE p n (ls, []) (sn r ++ unit m k) = (ls, [] ++ [red p ls (sn r ++ unit m k)]) := by unfold stepE; rw [hz]
      rw [hst] at hsp
      exact absurd hsp (stepE_more _ _ (by simp))
    | some at_ =>
      have hst : stepE p n (ls, []) (sn r ++ unit m k) = (ls ++ [(at_, mulm p (inv p (at0 (red p ls (sn r ++ unit m k)) at_)) (red p ls (sn r ++ unit m k)))], []) := by
        unfold stepE; rw [hz]
      rw [hst] at hsp ei2
      obtain ⟨ha, hnz⟩ := fnz_some hz
      have han : at_ < n := by rw [List.length_take] at ha; omega
      rw [at0_take, if_pos han] at hnz
      have bnd := wi.at (by omega) at_
      rw [flats_cons, List.foldl_cons, hst]
      have hfl := flat_run N (s := [.lst (ls.map lV)] :: s) r (m := m) (i := k) (by omega) (by have := (hr r List.mem_cons_self).1; omega)
      have hX' : asQ ([.lst (ls.map lV)] :: s) X = some (R.map rv) := asQ_push hX
      have bl := bLen_asQ hX'
      rw [List.length_map, hR] at bl
      have lk1 : lk ([.lst (ls.map lV)] :: s) s.length 0 = some (.lst (ls.map lV)) := lk_top
      have stl : still (.ref s.length 0) (ls.map lV) ([.lst (ls.map lV)] :: s) = true := still_of (by simp [asQ, asL, lk1])
      obtain ⟨x', y', inner⟩ := ech_inner N hp n (L := n + 1 + m) ls (sn r ++ unit m k) [] ([.lst (ls.map lV)] :: s) (still (.ref s.length 0) (ls.map lV)) (some X) (some (.ref s.length 0)) (some (.int k)) (some (rv r)) g f d e stl fl fi hlen
      generalize hw : red p ls (sn r ++ unit m k) = w at *
      generalize hT : inv p (at0 w at_) = t at *
      have fp := fnz_places (w := w) (n := n) (by omega)
      rw [hz] at fp
      obtain ⟨rest, hrest⟩ : ∃ rest, ((List.range n).filter fun i => decide (at0 w i ≠ 0)) = at_ :: rest := by
        cases hq : ((List.range n).filter fun i => decide (at0 w i ≠ 0)) with
        | nil => rw [hq] at fp; cases fp
        | cons z rest => rw [hq] at fp; cases fp; exact ⟨rest, rfl⟩
      have comp : ∀ ρ : FM.Env, ρ = [some (hv p n), some X, some (.ref s.length 0), some (.int k), some (rv r), some (.lst (vi w)), none, y', f, g] → compL (fun _ => true) (FM.gName 6) (tVal (eOp opNe (eOp opIx (eVar 5) (eVar 6)) (eC (.int 0)))) (eVar 6) ρ ((List.range n).map fun (i : Nat) => Val.int (i : Int)) [] ([.lst (ls.map lV)] :: s)
          = .ok ((at_ :: rest).map fun (i : Nat) => Val.int (i : Int)) ([.lst (ls.map lV)] :: s) := fun ρ hρ => by
        rw [← hrest]
        exact compL_pick (fun i : Nat => Val.int (i : Int)) (fun i => decide (at0 w i ≠ 0)) (fun i : Nat => Val.int (i : Int)) rfl (List.range n) fun i hi => by
          have hi := List.mem_range.mp hi
          subst hρ
          have ix := fun s => ix_vi s (X := .lst (vi w)) rfl (i := i) (by omega)
          exact ⟨_, rfl, by simp [ix], fun _ => by simp⟩
      have c0 : ((-1152921504606846976 : Int) < (n : Int) ∧ (n : Int) ≤ (sizeLine : Int)) := by unfold sizeLine; omega
      have nl : opEq ([.lst (ls.map lV)] :: s) (.lst ((at_ :: rest).map fun (i : Nat) => Val.int (i : Int))) (.lst []) = some (.bl false) := by
        rw [opEq_nil (pureAll_map _ (fun _ => pure_int _) _)]; rfl
      have ix0 : opIx ([.lst (ls.map lV)] :: s) (.lst ((at_ :: rest).map fun (i : Nat) => Val.int (i : Int))) (.int 0) = some (.int at_) := ix_map (i := 0) _ (f := fun (i : Nat) => Val.int (i : Int)) (l := at_ :: rest) rfl rfl
      have ixa := ix_vi ([.lst (ls.map lV)] :: s) (X := .lst (vi w)) rfl (i := at_) (by omega)
      have iv := inverse_run N ([.lst (ls.map lV)] :: s) hp (x := at0 w at_) (by omega) bnd.2
      obtain ⟨t0, t1, _⟩ := inv_ok hp (x := at0 w at_) (by omega) bnd.2
      rw [hT] at iv t0 t1
      have pl := plus_run N (s := [.lst (ls.map lV)] :: s) hp n (X := .lst (vi (List.replicate w.length 0))) (Y := .lst (vi w)) (k := t) rfl rfl (by omega) (by omega)
      rw [mulm_add, vi_rep] at pl
      simp only [List.length_cons] at hls
      have lw : bLen ([.lst (ls.map lV)] :: s) [.lst (vi w)] = some (.int w.length) := by rw [bLen_asQ (xs := vi w) rfl, vi_len]
      obtain ⟨a2, b2, c2', d2, e2, f2, g2, ih⟩ := ih0 (k + 1) (vs ++ [sn r ++ unit m k]) (ls ++ [(at_, mulm p t w)]) (some (.int k)) (some (rv r)) (some (.lst (vi w))) x' y' (some (.lst ((at_ :: rest).map fun (i : Nat) => Val.int (i : Int)))) (some (.int t)) (fun q hq => hr q (List.mem_cons_of_mem _ hq)) ei2 (by simp only [List.length_append, List.length_cons, List.length_nil]; omega) hsp
      refine ⟨a2, b2, c2', d2, e2, f2, g2, ?_⟩
      rw [← ih]
      clear ih hst hsp ei2 hT
      generalize ((at_ :: rest).map fun (i : Nat) => Val.int (i : Int)) = PL at *
      have q1 : (sAsg (eFn (m_law_flat N) (aCons (eVar 4) (aCons (eCall bLen (aCons (eVar 1) aNil)) (aCons (eVar 3) aNil)))) (FM.gName 5)) [some (hv p n), some X, some (.ref s.length 0), some (.int k), some (rv r), c, d, e, f, g] ([.lst (ls.map lV)] :: s) = .nx [some (hv p n), some X, some (.ref s.length 0), some (.int k), some (rv r), some (.lst (vi (sn r ++ unit m k))), d, e, f, g] ([.lst (ls.map lV)] :: s) := by
        simp [bl, hfl, -vi_append]
      have q2 : (sFor (iSeq (eVar 2)) (FM.gTup [(FM.gName 6), (FM.gName 7)]) (l1_law_echelon N)) [some (hv p n), some X, some (.ref s.length 0), some (.int k), some (rv r), some (.lst (vi (sn r ++ unit m k))), d, e, f, g] ([.lst (ls.map lV)] :: s) = .nx [some (hv p n), some X, some (.ref s.length 0), some (.int k), some (rv r), some (.lst (vi w)), x', y', f, g] ([.lst (ls.map lV)] :: s) := by
        simp [asQ, asL, lk1, inner, -vi_append]
      have q3 : (sAsg (eDead (fComp (iRange1 (eOp opIx (eVar 0) (eC (.int 1)))) [6] (FM.gName 6) (tVal (eOp opNe (eOp opIx (eVar 5) (eVar 6)) (eC (.int 0)))) (eVar 6))) (FM.gName 8)) [some (hv p n), some X, some (.ref s.length 0), some (.int k), some (rv r), some (.lst (vi w)), x', y', f, g] ([.lst (ls.map lV)] :: s) = .nx [some (hv p n), some X, some (.ref s.length 0), some (.int k), some (rv r), some (.lst (vi w)), x', y', some (.lst PL), g] ([.lst (ls.map lV)] :: s) := by
        simp [c0, rg0, FM.wipe, comp _ rfl]
      have q5 : (sIf (tVal (eOp opEq (eVar 8) (eDead (fLst aNil)))) (sCons (sRet (eTup (aCons (eVar 2) (aCons (eTupleF (fSl (eVar 5) (oSome (eOp opAdd (eOp opIx (eVar 0) (eC (.int 1))) (eC (.int 1)))) oNone)) aNil)))) sNil) sNil) [some (hv p n), some X, some (.ref s.length 0), some (.int k), some (rv r), some (.lst (vi w)), x', y', some (.lst PL), g] ([.lst (ls.map lV)] :: s) = .nx [some (hv p n), some X, some (.ref s.length 0), some (.int k), some (rv r), some (.lst (vi w)), x', y', some (.lst PL), g] ([.lst (ls.map lV)] :: s) := by
        simp [nl]
      have q4 : (sAsg (eFn (m_law_inverse N) (aCons (eOp opIx (eVar 0) (eC (.int 0))) (aCons (eOp opIx (eVar 5) (eOp opIx (eVar 8) (eC (.int 0)))) aNil))) (FM.gName 9)) [some (hv p n), some X, some (.ref s.length 0), some (.int k), some (rv r), some (.lst (vi w)), x', y', some (.lst PL), g] ([.lst (ls.map lV)] :: s) = .nx [some (hv p n), some X, some (.ref s.length 0), some (.int k), some (rv r), some (.lst (vi w)), x', y', some (.lst PL), some (.int t)] ([.lst (ls.map lV)] :: s) := by
        simp [ix0, ixa, iv]
      have mz := run_zeros (e := eCall bLen (aCons (eVar 5) aNil)) (ρ := [some (hv p n), some X, some (.ref s.length 0), some (.int k), some (rv r), some (.lst (vi w)), x', y', some (.lst PL), some (.int t)]) (s := ([.lst (ls.map lV)] :: s)) (L := w.length) (by simp [lw]) (by omega)
      have q7 : (eFn (m_law_plus N) (aCons (eVar 0) (aCons (eDead (fMul (eDead (fLst (aCons (eC (.int 0)) aNil))) (eCall bLen (aCons (eVar 5) aNil)))) (aCons (eVar 9) (aCons (eVar 5) aNil))))) [some (hv p n), some X, some (.ref s.length 0), some (.int k), some (rv r), some (.lst (vi w)), x', y', some (.lst PL), some (.int t)] ([.lst (ls.map lV)] :: s) = .ok (.lst (vi (mulm p t w))) ([.lst (ls.map lV)] :: s) :=
        eFn_of (aCons_of rfl (aCons_of (eDead_of mz) (aCons_of rfl (aCons_of rfl rfl)))) pl
      have q8 : (eOp opIx (eVar 8) (eC (.int 0))) [some (hv p n), some X, some (.ref s.length 0), some (.int k), some (rv r), some (.lst (vi w)), x', y', some (.lst PL), some (.int t)] ([.lst (ls.map lV)] :: s) = .ok (.int at_) ([.lst (ls.map lV)] :: s) := by simp [ix0]
      have q6 := append_stm (i := 2) (n := 0) (ρ := [some (hv p n), some X, some (.ref s.length 0), some (.int k), some (rv r), some (.lst (vi w)), x', y', some (.lst PL), some (.int t)]) (fr := [.lst (ls.map lV)]) (s := s) (s' := s) rfl rfl (eTup_of (aCons_of q8 (aCons_of (r := aNil) q7 rfl))) rfl (by rw [List.length_map]; omega)
      have body : l2_law_echelon N [some (hv p n), some X, some (.ref s.length 0), some (.int k), some (rv r), c, d, e, f, g] ([.lst (ls.map lV)] :: s) = .nx [some (hv p n), some X, some (.ref s.length 0), some (.int k), some (rv r), some (.lst (vi w)), x', y', some (.lst PL), some (.int t)] ([.lst (ls.map lV ++ [Val.tup [Val.int at_, Val.lst (vi (mulm p t w))]])] :: s) := by
        rw [l2_law_echelon_ap, run_cons, q1, then_nx, run_cons, q2, then_nx, run_cons, q3, then_nx, run_cons, q5, then_nx, run_cons, q4, then_nx, run_cons, q6, then_nx]; rfl
      simp [List.zipIdx_cons, forL, hk, body, lV]
theorem zipIdx_rv (m : Nat) : ∀ (R : List (List Int × Int)) (k : Nat), (((R.map rv).zipIdx k).map fun p => Val.tup [.int p.2, p.1]) = (R.zipIdx k).map fun q => Val.tup [.int q.2, rv q.1]
  | [], _ => rfl
  | r :: R, k => by simp [List.zipIdx_cons, zipIdx_rv m R (k + 1)]
theorem echelon_run (N : Nat) {p : Int} (hp : Pr p) {n : Nat} (hn : n < 100) {s : S} {X : Val} {R : List (List Int × Int)} (hm : R.length < 500) (hX : asQ s X = some (R.map rv)) (hr : ∀ r ∈ R, RowOk p n r) (hs : (elim p n (flats R.length 0 R)).2 = []) :
    m_law_echelon N [hv p n, X] s = .ok (.val (.tup [.lst ((elim p n (flats R.length 0 R)).1.map lV), .non])) s := by
  have hX' : asQ ([.lst []] :: s) X = some (R.map rv) := asQ_push hX
  obtain ⟨a, b, c, d, e, f, g, r⟩ := ech_loop N hp hn hm hX rfl (keep := still X (R.map rv)) (fun fr => still_of (asQ_push hX)) R 0 [] [] none none none none none none none hr (ei_nil p n _) (by simp) hs
  have rt : retOf s.length [.lst ((elim p n (flats R.length 0 R)).1.map lV)] (.tup [.ref s.length 0, .non]) = some (.val (.tup [.lst ((elim p n (flats R.length 0 R)).1.map lV), .non])) :=
    retOf_t2 (by simp [below, belowAll]) (frz_ref rfl (pureAll_map _ pure_lV _)) (frz_pure rfl)
  have z := zipIdx_rv R.length R 0
  simp only [elim] at rt ⊢
  simp [m_law_echelon, b_law_echelon, mkFn, pushC, hX', z]
  simp only [List.map_nil] at r
  rw [r]
  simp [rt]
theorem giv_inner (N : Nat) {p : Int} (hp : Pr p) (n : Nat) {L : Nat} : ∀ (ls : Lv) (v : List Int) (s : S) (keep : S → Bool) (A B E : Option Val) (x y : Option Val), keep s = true → v.length = L → InR p v → (∀ l ∈ ls, l.2.length = L ∧ l.1 < L) →
    ∃ x' y', forL keep (FM.gTup [FM.gName 4, FM.gName 5]) (l1_law_given N) (ls.map lV) [some (hv p n), A, B, some (.lst (vi v)), x, y, E] s = .nx [some (hv p n), A, B, some (.lst (vi (red p ls v))), x', y', E] s
  | [], v, s, keep, A, B, E, x, y, hk, _, _, _ => ⟨x, y, by simp [forL, hk, red]⟩
  | l :: ls, v, s, keep, A, B, E, x, y, hk, hv', hi, hl => by
    obtain ⟨h1, h2⟩ := hl l List.mem_cons_self
    have b := at0_bound hp hi l.1
    have e := plus_run N (s := s) hp n (X := .lst (vi v)) (Y := .lst (vi l.2)) (k := -at0 v l.1) rfl rfl b.1 b.2
    have ix := ix_vi s (X := .lst (vi v)) rfl (i := l.1) (by omega)
    have len : (addm p v (-at0 v l.1) l.2).length = L := by rw [addm_len (by omega)]; exact hv'
    obtain ⟨x', y', r⟩ := giv_inner N hp n ls (addm p v (-at0 v l.1) l.2) s keep A B E (some (.int l.1)) (some (.lst (vi l.2))) hk len (addm_in (by have := hp.pos; omega) _ _) fun q hq => hl q (List.mem_cons_of_mem _ hq)
    refine ⟨x', y', ?_⟩
    rw [red_cons, ← r]
    simp [forL, hk, lV, l1_law_given_ap, ix, e]
/-- what the law's question answers -/
def givenV (p : Int) (n : Nat) (w : List Int) : Val := if fnz (w.take n) = none then .tup [.int (-1 * at0 w n % p), .tup (vi ((mulm p (-1) (w.drop n)).drop 1))] else .non
theorem given_run (N : Nat) {p : Int} (hp : Pr p) {n : Nat} (hn : n < 100) {s : S} {X : Val} {R : List (List Int × Int)} (hm : R.length < 500) (hX : asQ s X = some (R.map rv)) (hr : ∀ r ∈ R, RowOk p n r) (hs : (elim p n (flats R.length 0 R)).2 = []) {v : List Int} (hl1 : v.length = n) (hl2 : InR p v) :
    m_law_given N [hv p n, X, tv v] s = .ok (.val (givenV p n (red p (elim p n (flats R.length 0 R)).1 (v ++ List.replicate (1 + R.length) 0)))) s := by
  have hp2 := hp.pos
  have hX' : asQ ([] :: s) X = some (R.map rv) := asQ_push hX
  have ech := echelon_run N hp hn (s := [] :: s) hm hX' hr hs
  have bl := bLen_asQ hX'
  rw [List.length_map] at bl
  have fo := flats_ok (m := R.length) hp R 0 hr
  have ei := ei_elim hp (n := n) (N := n + 1 + R.length) (by omega) (flats R.length 0 R) (fun u hu => (fo u hu).1) fun u hu => (fo u hu).2
  have es := ei.steps
  have elo := ei.low
  clear ei
  generalize (elim p n (flats R.length 0 R)).1 = ls at *
  have il : (v ++ List.replicate (1 + R.length) (0 : Int)).length = n + 1 + R.length := by simp [hl1]; omega
  have ii : InR p (v ++ List.replicate (1 + R.length) (0 : Int)) := by
    intro x hx
    rcases List.mem_append.mp hx with hx | hx
    · exact hl2 x hx
    · rw [(List.mem_replicate.mp hx).2]; omega
  have e0 : vi v ++ List.replicate (1 + R.length) (Val.int 0) = vi (v ++ List.replicate (1 + R.length) 0) := by simp
  generalize (v ++ List.replicate (1 + R.length) (0 : Int)) = v0 at *
  have ST0 : True := trivial
  have hlen : ∀ l ∈ ls, l.2.length = n + 1 + R.length ∧ l.1 < n + 1 + R.length := fun l hl => ⟨es.len l hl, by have := elo l hl; omega⟩
  have wl : (red p ls v0).length = n + 1 + R.length := by rw [red_len ls _ fun l hl => by rw [il]; exact (hlen l hl).1, il]
  have wi : InR p (red p ls v0) := red_in (by omega) _ _ ii
  have one : ∀ (ρ : FM.Env), ρ[1]? = some (some X) → (eOp opAdd (eC (.int 1)) (eCall bLen (aCons (eVar 1) aNil))) ρ ([] :: s) = .ok (.int (1 + R.length : Nat)) ([] :: s) := fun ρ h => by
    have e1 : eVar 1 ρ ([] :: s) = .ok X ([] :: s) := by rw [run_var, h]
    have e2 : (eCall bLen (aCons (eVar 1) aNil)) ρ ([] :: s) = .ok (.int R.length) ([] :: s) := by rw [run_call, aCons_of (r := aNil) e1 rfl, bind_ok, bl]; rfl
    exact eOp_of rfl e2 (by rw [opAdd_int]; congr 2)
  have q1 : (sAsg (eDead (fAdd (eDead (fList (eVar 2))) (eDead (fMul (eDead (fLst (aCons (eC (.int 0)) aNil))) (eOp opAdd (eC (.int 1)) (eCall bLen (aCons (eVar 1) aNil))))))) (FM.gName 3)) [some (hv p n), some X, some (tv v), none, none, none, none] ([] :: s) = .nx [some (hv p n), some X, some (tv v), some (.lst (vi v0)), none, none, none] ([] :: s) := by
    have m1 := run_zeros (one [some (hv p n), some X, some (tv v), none, none, none, none] rfl) (by omega)
    have m2 := fAdd_of (eDead_of (fList_of (a := eVar 2) (ρ := [some (hv p n), some X, some (tv v), none, none, none, none]) (s := [] :: s) (x := tv v) rfl rfl)) (eDead_of m1) (by simp; omega)
    rw [e0] at m2
    exact sAsg_of (eDead_of m2)
  obtain ⟨x', y', inner⟩ := giv_inner N hp n (L := n + 1 + R.length) ls v0 ([] :: s) (still (.lst (ls.map lV)) (ls.map lV)) (some X) (some (tv v)) none none none rfl il ii hlen
  generalize red p ls v0 = w at *
  have q2 : (sFor (iSeq (eOp opIx (eFn (m_law_echelon N) (aCons (eVar 0) (aCons (eVar 1) aNil))) (eC (.int 0)))) (FM.gTup [(FM.gName 4), (FM.gName 5)]) (l1_law_given N)) [some (hv p n), some X, some (tv v), some (.lst (vi v0)), none, none, none] ([] :: s) = .nx [some (hv p n), some X, some (tv v), some (.lst (vi w)), x', y', none] ([] :: s) := by
    have m1 := eFn_val (a := aCons (eVar 0) (aCons (eVar 1) aNil)) (ρ := [some (hv p n), some X, some (tv v), some (.lst (vi v0)), none, none, none]) (s := [] :: s) rfl ech
    have m2 := eOp_of (f := opIx) (b := eC (.int 0)) (z := .lst (ls.map lV)) m1 rfl rfl
    rw [sFor_of (iSeq_of m2 rfl)]
    exact inner
  have q3 := places_run (ρ := [some (hv p n), some X, some (tv v), some (.lst (vi w)), x', y', none]) (s := [] :: s) (n := n) (j := 4) (i := 3) (w := w) (a := eOp opIx (eVar 0) (eC (.int 1))) (eOp_of rfl rfl (hv1 _ _ _)) rfl (by decide) (by simp) (by omega) (by omega)
  have q4 := eOp_of (f := opNe) (eDead_of q3) (b := eDead (fLst aNil)) (y := .lst []) rfl (opNe_nil (pureAll_map _ (fun _ => pure_int _) _))
  have fp := fnz_places (w := w) (n := n) (by omega)
  have st : m_law_given N [hv p n, X, tv v] s = (match (b_law_given N) [some (hv p n), some X, some (tv v), none, none, none, none] ([] :: s) with
    | .rt v s1 => finish v s1
    | .nx _ s1 => finish .non s1
    | _ => .no) := rfl
  rw [st, b_law_given, run_cons, q1, then_nx, run_cons, q2, then_nx, run_cons, sIf_of (tVal_of q4)]
  unfold givenV
  rw [fp]
  cases hq : ((List.range n).filter fun i => decide (at0 w i ≠ 0)) with
  | cons z r => rfl
  | nil =>
    have dl : (w.drop n).length = 1 + R.length := by simp; omega
    have pl := plus_run N (s := [] :: s) hp n (X := .lst (vi (List.replicate (w.drop n).length 0))) (Y := .lst (vi (w.drop n))) (k := -1) rfl rfl (by decide) (by decide)
    rw [mulm_add, vi_rep, dl] at pl
    have ml : (mulm p (-1) (w.drop n)).length = 1 + R.length := by simp only [mulm, List.length_map]; exact dl
    have m1 := run_zeros (one [some (hv p n), some X, some (tv v), some (.lst (vi w)), x', y', none] rfl) (by omega)
    have m2 := fSl_from (a := eVar 3) (lo := oSome (eOp opIx (eVar 0) (eC (.int 1)))) (ρ := [some (hv p n), some X, some (tv v), some (.lst (vi w)), x', y', none]) (s := [] :: s) (X := .lst (vi w)) (v := w) (n := n) rfl rfl rfl (by omega)
    have m3 := eFn_of (a := aCons (eVar 0) (aCons (eDead (fMul (eDead (fLst (aCons (eC (.int 0)) aNil))) (eOp opAdd (eC (.int 1)) (eCall bLen (aCons (eVar 1) aNil))))) (aCons (eOp1 opNeg (eC (.int 1))) (aCons (eDead (fSl (eVar 3) (oSome (eOp opIx (eVar 0) (eC (.int 1)))) oNone)) aNil)))) (aCons_of rfl (aCons_of (eDead_of m1) (aCons_of rfl (aCons_of (r := aNil) (eDead_of m2) rfl)))) pl
    have ix := ix_vi ([] :: s) (X := .lst (vi (mulm p (-1) (w.drop n)))) rfl (i := 0) (by omega)
    have e1 : at0 (mulm p (-1) (w.drop n)) 0 = -1 * at0 w n % p := by
      rw [mulm_at]; congr 2
      unfold at0; simp
    rw [e1] at ix
    have m4 := fSl_from (a := eVar 6) (lo := oSome (eC (.int 1))) (ρ := [some (hv p n), some X, some (tv v), some (.lst (vi w)), x', y', some (.lst (vi (mulm p (-1) (w.drop n))))]) (s := [] :: s) (X := .lst (vi (mulm p (-1) (w.drop n)))) (v := mulm p (-1) (w.drop n)) (n := 1) rfl rfl rfl (by omega)
    have m5 := eOp_of (f := opIx) (a := eVar 6) (b := eC (.int 0)) (ρ := [some (hv p n), some X, some (tv v), some (.lst (vi w)), x', y', some (.lst (vi (mulm p (-1) (w.drop n))))]) (s := [] :: s) rfl rfl ix
    have m6 := sRet_of (eTup_of (aCons_of m5 (aCons_of (r := aNil) (eTupleF_of m4) rfl)))
    show (match (sCons (sAsg _ (FM.gName 6)) (sCons (sRet _) sNil)) [some (hv p n), some X, some (tv v), some (.lst (vi w)), x', y', none] ([] :: s) with
      | .rt v s1 => finish v s1
      | .nx _ s1 => finish .non s1
      | _ => .no) = _
    rw [run_cons, sAsg_of m3, then_nx]
    show (match (sCons (sRet _) sNil) [some (hv p n), some X, some (tv v), some (.lst (vi w)), x', y', some (.lst (vi (mulm p (-1) (w.drop n))))] ([] :: s) with
      | .rt v s1 => finish v s1
      | .nx _ s1 => finish .non s1
      | _ => .no) = _
    rw [run_cons, m6, then_rt]
    have rp : retOf s.length [] (.tup [.int (-1 * at0 w n % p), .tup (vi ((mulm p (-1) (w.drop n)).drop 1))]) = some (.val (.tup [.int (-1 * at0 w n % p), .tup (vi ((mulm p (-1) (w.drop n)).drop 1))])) := retOf_pure (by simp [FM.pure, pureAll])
    show finish _ ([] :: s) = _
    rw [finish_cons, rp]
    rfl
end FT

set_option autoImplicit false
/-! houses, sums and worlds are drawn -/
namespace FT
open PySem PySem.Spec PyProof.Rows L2 FM LN
local instance : Tbl := ⟨[]⟩
theorem take_fr (N : Nat) {s : S} (h : HB s) (fr : List Cell) {many : Int} (hm : 0 < many) (hm2 : many < 2 ^ 30) : ∃ (v : Int) (b : BagT), b.Ok ∧ 0 ≤ v ∧ v < many ∧ m_law_take N [.ref 0 0, .int many] (fr :: s) = .ok (.val (.int v)) (fr :: FT.sb s b) := by
  obtain ⟨v, b, o, v0, v1, r⟩ := take_run N (h.push fr) hm hm2
  rw [sb_push h] at r
  exact ⟨v, b, o, v0, v1, r⟩
theorem one_fr (N : Nat) {s : S} (h : HB s) (fr : List Cell) {X : Val} {xs : List Val} (hX : X ≠ .ref 0 0) (e : asQ (fr :: s) X = some xs) (hp : pureAll xs = true) (h0 : xs ≠ []) (hl : xs.length < 1000) :
    ∃ x ∈ xs, ∃ b : BagT, b.Ok ∧ m_law_one N [.ref 0 0, X] (fr :: s) = .ok (.val x) (fr :: FT.sb s b) := by
  obtain ⟨x, hx, b, o, r⟩ := one_run N (h.push fr) hX e hp h0 hl
  rw [sb_push h] at r
  exact ⟨x, hx, b, o, r⟩
/-- one of some numbers -/
theorem one_int (N : Nat) {s : S} (h : HB s) (fr : List Cell) (l : List Int) (h0 : l ≠ []) (hl : l.length < 1000) : ∃ k ∈ l, ∃ b : BagT, b.Ok ∧ m_law_one N [.ref 0 0, .lst (vi l)] (fr :: s) = .ok (.val (.int k)) (fr :: FT.sb s b) := by
  obtain ⟨x, hx, b, o, r⟩ := one_fr N h fr (X := .lst (vi l)) (xs := vi l) (fun z => by cases z) rfl (pureAll_vi l) (by cases l with | nil => exact absurd rfl h0 | cons a l => simp) (by simpa using hl)
  obtain ⟨k, hk, rfl⟩ := List.mem_map.mp hx
  exact ⟨k, hk, b, o, r⟩
theorem house_run (N : Nat) {s : S} (h : HB s) {most : Nat} (h3 : 3 ≤ most) : ∃ (p : Int) (n : Nat) (b : BagT), b.Ok ∧ Pr p ∧ n ≤ most ∧ m_law_house N [.ref 0 0, .int most] s = .ok (.val (hv p n)) (FT.sb s b) := by
  obtain ⟨p, hp, b1, o1, r1⟩ := one_int N h [] [2, 3, 2, 5, 7] (by simp) (by simp)
  have h1 := h.sb o1
  obtain ⟨n, hn, b2, o2, r2⟩ := one_int N h1 [] [(most : Int), 2, 3, 1, (most : Int), 0] (by simp) (by simp)
  rw [sb_sb] at r2
  have pr : Pr p := by
    unfold Pr
    simp only [List.mem_cons, List.not_mem_nil, or_false] at hp
    omega
  have nb : 0 ≤ n ∧ n ≤ most := by
    simp only [List.mem_cons, List.not_mem_nil, or_false] at hn
    omega
  refine ⟨p, n.toNat, b2, o2, pr, by omega, ?_⟩
  have en : ((n.toNat : Nat) : Int) = n := by omega
  have q0 : (sAsg (eIf (tVal (eOp opGe (eVar 1) (eC (.int 3)))) (eDead (fLst (aCons (eVar 1) (aCons (eC (.int 2)) (aCons (eC (.int 3)) (aCons (eC (.int 1)) (aCons (eVar 1) (aCons (eC (.int 0)) aNil)))))))) (eDead (fRange (eOp opAdd (eVar 1) (eC (.int 1)))))) (FM.gName 2)) [some (.ref 0 0), some (.int most), none] ([] :: s)
      = .nx [some (.ref 0 0), some (.int most), some (.lst (vi [(most : Int), 2, 3, 1, (most : Int), 0]))] ([] :: s) := by
    refine sAsg_of (v := .lst (vi [(most : Int), 2, 3, 1, (most : Int), 0])) ?_
    rw [run_eif, tVal_of (eOp_of (f := opGe) (a := eVar 1) (b := eC (.int 3)) (ρ := [some (.ref 0 0), some (.int most), none]) (s := [] :: s) (x := .int most) (y := .int 3) rfl rfl (opGe_int _ _ _)), bind_ok, if_pos (by simpa using by omega)]
    rfl
  have e1 := eFn_val (f := m_law_one N) (a := aCons (eVar 0) (aCons (eDead (fLst (aCons (eC (.int 2)) (aCons (eC (.int 3)) (aCons (eC (.int 2)) (aCons (eC (.int 5)) (aCons (eC (.int 7)) aNil))))))) aNil)) (ρ := [some (.ref 0 0), some (.int most), some (.lst (vi [(most : Int), 2, 3, 1, (most : Int), 0]))]) (s := [] :: s) rfl r1
  have e2 := eFn_val (f := m_law_one N) (a := aCons (eVar 0) (aCons (eVar 2) aNil)) (ρ := [some (.ref 0 0), some (.int most), some (.lst (vi [(most : Int), 2, 3, 1, (most : Int), 0]))]) (s := [] :: FT.sb s b1) rfl r2
  have rt := sRet_of (eTup_of (aCons_of e1 (aCons_of (r := aNil) e2 rfl)))
  have hb : b_law_house N [some (.ref 0 0), some (.int most), none] ([] :: s) = .rt (.tup [.int p, .int n]) ([] :: FT.sb s b2) := by
    rw [b_law_house, run_cons, q0, then_nx, run_cons, rt]; rfl
  have := mkFn_ret (n := 3) (np := 2) (args := [.ref 0 0, .int most]) rfl rfl hb (retOf_pure (by simp [FM.pure, pureAll]))
  rw [show hv p n.toNat = .tup [.int p, .int n] by unfold hv; rw [en]]
  exact this
/-- a good sum -/
def SumOk (p : Int) (n : Nat) (v : List Int) : Prop := v.length = n ∧ InR p v
theorem inr_set {p : Int} {v : List Int} (h : InR p v) (i : Nat) {x : Int} (hx : 0 ≤ x ∧ x < p) : InR p (v.set i x) := fun y hy => by
  rcases List.mem_or_eq_of_mem_set hy with hy | hy
  · exact h y hy
  · rw [hy]; exact hx
theorem sum_loop (N : Nat) {p : Int} (hp : Pr p) {n : Nat} (hn : n < 1000) : ∀ (js : List Nat) (v : List Int) (s : S) (x : Option Val), HB s → SumOk p n v →
    ∃ v' b x', b.Ok ∧ SumOk p n v' ∧ forL (fun _ => true) (FM.gName 3) (l1_law_sum N) (js.map fun (j : Nat) => Val.int (j : Int)) [some (.ref 0 0), some (hv p n), some (.ref s.length 0), x] ([.lst (vi v)] :: s) = .nx [some (.ref 0 0), some (hv p n), some (.ref s.length 0), x'] ([.lst (vi v')] :: FT.sb s b)
  | [], v, s, x, h, hv' => by
    obtain ⟨b, o, e⟩ := h.self
    exact ⟨v, b, x, o, hv', by rw [e]; simp [forL]⟩
  | j :: js, v, s, x, h, hv' => by
    have hp2 := hp.pos
    have tg : ∀ m : Nat, (tVal (eOp opGt (eOp opIx (eVar 1) (eC (.int 1))) (eC (.int 0)))) [some (.ref 0 0), some (hv p n), some (.ref s.length 0), some (.int j)] ([.lst (vi v)] :: s) = .ok (decide (0 < (n : Int))) ([.lst (vi v)] :: s) := fun _ =>
      tVal_of (eOp_of (f := opGt) (x := .int n) (y := .int 0) (eOp_of (x := hv p n) (y := .int 1) rfl rfl (hv1 _ p n)) rfl (opGt_int _ _ _))
    by_cases hz : n = 0
    · obtain ⟨v', b, x', o, g, r⟩ := sum_loop N hp hn js v s (some (.int j)) h hv'
      refine ⟨v', b, x', o, g, ?_⟩
      rw [← r]
      have body : l1_law_sum N [some (.ref 0 0), some (hv p n), some (.ref s.length 0), some (.int j)] ([.lst (vi v)] :: s) = .nx [some (.ref 0 0), some (hv p n), some (.ref s.length 0), some (.int j)] ([.lst (vi v)] :: s) := by
        rw [l1_law_sum_ap, run_cons, sIf_of (tg 0), if_neg (by simp [hz])]; rfl
      simp only [List.map_cons, forL, if_true, FM.gName]
      show (match l1_law_sum N [some (.ref 0 0), some (hv p n), some (.ref s.length 0), some (.int j)] _ with | .nx ρ2 s2 => _ | .ct ρ2 s2 => _ | .bk ρ2 s2 => _ | .rt v s2 => _ | .ex e s2 => _ | .no => _) = _
      rw [body]
    · obtain ⟨t, b1, o1, t0, t1, r1⟩ := take_fr N h [.lst (vi v)] (many := p - 1) (by omega) (by omega)
      have h1 := h.sb o1
      obtain ⟨i, b2, o2, i0, i1, r2⟩ := take_fr N h1 [.lst (vi v)] (many := n) (by omega) (by omega)
      rw [sb_sb] at r2
      have h2 := h.sb o2
      have el : (FT.sb s b2).length = s.length := sb_len s b2
      obtain ⟨v', b, x', o, g, r⟩ := sum_loop N hp hn js (v.set i.toNat (1 + t)) (FT.sb s b2) (some (.int j)) h2 ⟨by rw [List.length_set]; exact hv'.1, inr_set hv'.2 _ (by omega)⟩
      rw [sb_sb, el] at r
      refine ⟨v', b, x', o, g, ?_⟩
      rw [← r]
      have e1 := eOp_of (f := opAdd) (a := eC (.int 1)) (x := .int 1) (y := .int t) (z := .int (1 + t)) rfl (eFn_val (f := m_law_take N) (a := aCons (eVar 0) (aCons (eOp opSub (eOp opIx (eVar 1) (eC (.int 0))) (eC (.int 1))) aNil)) (ρ := [some (.ref 0 0), some (hv p n), some (.ref s.length 0), some (.int j)]) (s := [.lst (vi v)] :: s) (xs := [.ref 0 0, .int (p - 1)]) (aCons_of rfl (aCons_of (r := aNil) (eOp_of (x := .int p) (y := .int 1) (eOp_of (x := hv p n) (y := .int 0) rfl rfl (hv0 _ p n)) rfl (opSub_int _ _ _)) rfl)) r1) (opAdd_int _ _ _)
      have e2 := eFn_val (f := m_law_take N) (a := aCons (eVar 0) (aCons (eOp opIx (eVar 1) (eC (.int 1))) aNil)) (ρ := [some (.ref 0 0), some (hv p n), some (.ref s.length 0), some (.int j)]) (s := [.lst (vi v)] :: FT.sb s b1) (xs := [.ref 0 0, .int n]) (aCons_of rfl (aCons_of (r := aNil) (eOp_of (x := hv p n) (y := .int 1) rfl rfl (hv1 _ p n)) rfl)) r2
      have st := set_top (fr := [.lst (vi v)]) (s := FT.sb s b2) (n := 0) (w := v) (j := i.toNat) (1 + t) rfl (by rw [hv'.1]; omega)
      rw [el, show ((i.toNat : Nat) : Int) = i by omega] at st
      have q := sSub_of (o := eVar 2) (x := .ref s.length 0) e1 rfl e2 st
      have body : l1_law_sum N [some (.ref 0 0), some (hv p n), some (.ref s.length 0), some (.int j)] ([.lst (vi v)] :: s) = .nx [some (.ref 0 0), some (hv p n), some (.ref s.length 0), some (.int j)] ([.lst (vi (v.set i.toNat (1 + t)))] :: FT.sb s b2) := by
        rw [l1_law_sum_ap, run_cons, sIf_of (tg 0), if_pos (by simp; omega), run_cons, q]; rfl
      simp only [List.map_cons, forL, if_true, FM.gName]
      show (match l1_law_sum N [some (.ref 0 0), some (hv p n), some (.ref s.length 0), some (.int j)] _ with | .nx ρ2 s2 => _ | .ct ρ2 s2 => _ | .bk ρ2 s2 => _ | .rt v s2 => _ | .ex e s2 => _ | .no => _) = _
      rw [body]
theorem range_of {a : Ex} {ρ : FM.Env} {s s1 : S} {k : Int} (h : a ρ s = .ok (.int k) s1) (h0 : -(2 ^ 60) < k) (h1 : k < 100000) : iRange1 a ρ s = .ok ((List.range k.toNat).map fun (j : Nat) => Val.int (j : Int), fun _ => true) s1 := by
  show (a ρ s).bind _ = _
  rw [h, bind_ok]
  show (if -(2 ^ 60) < k ∧ k ≤ sizeLine then FM.R.ok (rangeV 0 k.toNat, fun _ => true) s1 else .no) = _
  rw [if_pos ⟨h0, by rw [sizeLine_eq]; omega⟩, rg0]
theorem sum_run (N : Nat) {p : Int} (hp : Pr p) {n : Nat} (hn : n < 1000) {s : S} (h : HB s) : ∃ (v : List Int) (b : BagT), b.Ok ∧ SumOk p n v ∧ m_law_sum N [.ref 0 0, hv p n] s = .ok (.val (tv v)) (FT.sb s b) := by
  have hp2 := hp.pos
  obtain ⟨k, hk, b1, o1, r1⟩ := one_int N h [.lst (vi (List.replicate n 0))] [1, 2, 1, 2, 3, 8, 0] (by simp) (by simp)
  have h1 := h.sb o1
  have kb : 0 ≤ k ∧ k ≤ 8 := by
    simp only [List.mem_cons, List.not_mem_nil, or_false] at hk
    omega
  obtain ⟨v, b, x', o, g, r⟩ := sum_loop N hp hn (List.range k.toNat) (List.replicate n 0) (FT.sb s b1) none h1 ⟨by simp, fun x hx => by rw [(List.mem_replicate.mp hx).2]; omega⟩
  have el : (FT.sb s b1).length = s.length := sb_len s b1
  have el2 : (FT.sb s b).length = s.length := sb_len s b
  rw [sb_sb, el] at r
  refine ⟨v, b, o, g, ?_⟩
  have q0 : (sAsg (eLive (fMul (eDead (fLst (aCons (eC (.int 0)) aNil))) (eOp opIx (eVar 1) (eC (.int 1))))) (FM.gName 2)) [some (.ref 0 0), some (hv p n), none, none] ([] :: s) = .nx [some (.ref 0 0), some (hv p n), some (.ref s.length 0), none] ([.lst (vi (List.replicate n 0))] :: s) := by
    have z := run_zeros (e := eOp opIx (eVar 1) (eC (.int 1))) (ρ := [some (.ref 0 0), some (hv p n), none, none]) (s := [] :: s) (eOp_of (x := hv p n) (y := .int 1) rfl rfl (hv1 _ p n)) (by omega)
    have l : (eLive (fMul (eDead (fLst (aCons (eC (.int 0)) aNil))) (eOp opIx (eVar 1) (eC (.int 1))))) [some (.ref 0 0), some (hv p n), none, none] ([] :: s) = .ok (.ref s.length 0) ([.lst (vi (List.replicate n 0))] :: s) := by
      rw [run_live, z, bind_ok, vi_rep]; rfl
    exact sAsg_of l
  have e1 := eFn_val (f := m_law_one N) (a := aCons (eVar 0) (aCons (eDead (fLst (aCons (eC (.int 1)) (aCons (eC (.int 2)) (aCons (eC (.int 1)) (aCons (eC (.int 2)) (aCons (eC (.int 3)) (aCons (eC (.int 8)) (aCons (eC (.int 0)) aNil))))))))) aNil)) (ρ := [some (.ref 0 0), some (hv p n), some (.ref s.length 0), none]) (s := [.lst (vi (List.replicate n 0))] :: s) rfl r1
  have it := range_of e1 (by omega) (by omega)
  have lk1 : lk ([.lst (vi v)] :: FT.sb s b) s.length 0 = some (.lst (vi v)) := lk_top' el2.symm
  have bt : (eCall bTuple (aCons (eVar 2) aNil)) [some (.ref 0 0), some (hv p n), some (.ref s.length 0), x'] ([.lst (vi v)] :: FT.sb s b) = .ok (tv v) ([.lst (vi v)] :: FT.sb s b) := by
    rw [run_call, aCons_of (e := eVar 2) (r := aNil) rfl rfl, bind_ok]
    simp [bTuple, asQ, asL, lk1, tv]
  have hb : b_law_sum N [some (.ref 0 0), some (hv p n), none, none] ([] :: s) = .rt (tv v) ([.lst (vi v)] :: FT.sb s b) := by
    rw [b_law_sum, run_cons, q0, then_nx, run_cons, sFor_of it]
    dsimp only
    rw [r, then_nx, run_cons, sRet_of bt]; rfl
  exact mkFn_ret rfl rfl hb (retOf_pure (pure_tv v))
theorem ref_ne {s : S} (h : HB s) (n : Nat) : Val.ref s.length n ≠ .ref 0 0 := fun e => by
  have := h.len
  injection e with e1 e2
  omega
/-- one of a list of sums that lives in the top frame -/
theorem one_sum (N : Nat) {s : S} (h : HB s) {fr : List Cell} {n : Nat} {f : Nat} (hf : f = s.length) {vs : List (List Int)} (hfr : fr[n]? = some (.lst (vs.map tv))) (h0 : vs ≠ []) (hl : vs.length < 1000) :
    ∃ v ∈ vs, ∃ b : BagT, b.Ok ∧ m_law_one N [.ref 0 0, .ref f n] (fr :: s) = .ok (.val (tv v)) (fr :: FT.sb s b) := by
  subst hf
  have lk1 : lk (fr :: s) s.length n = some (.lst (vs.map tv)) := by rw [lk_top]; exact hfr
  obtain ⟨x, hx, b, o, r⟩ := one_fr N h fr (X := .ref s.length n) (xs := vs.map tv) (ref_ne h n) (by simp [asQ, asL, lk1]) (pureAll_map _ pure_tv _) (by cases vs with | nil => exact absurd rfl h0 | cons a l => simp) (by simpa using hl)
  obtain ⟨v, hv', rfl⟩ := List.mem_map.mp hx
  exact ⟨v, hv', b, o, r⟩
theorem sums_loop (N : Nat) {p : Int} (hp : Pr p) {n : Nat} (hn : n < 1000) (A : Option Val) : ∀ (js : List Nat) (vs : List (List Int)) (s : S) (a b c d : Option Val), HB s → vs ≠ [] → (∀ v ∈ vs, SumOk p n v) → vs.length + js.length < 900 →
    ∃ vs' bb a' b' c' d', BagT.Ok bb ∧ vs' ≠ [] ∧ (∀ v ∈ vs', SumOk p n v) ∧ vs'.length = vs.length + js.length ∧ forL (fun _ => true) (FM.gName 4) (l1_law_sums N) (js.map fun (j : Nat) => Val.int (j : Int)) [some (.ref 0 0), some (hv p n), A, some (.ref s.length 0), a, b, c, d] ([.lst (vs.map tv)] :: s)
      = .nx [some (.ref 0 0), some (hv p n), A, some (.ref s.length 0), a', b', c', d'] ([.lst (vs'.map tv)] :: FT.sb s bb)
  | [], vs, s, a, b, c, d, h, h0, hg, _ => by
    obtain ⟨bb, o, e⟩ := h.self
    exact ⟨vs, bb, a, b, c, d, o, h0, hg, by simp, by rw [e]; simp [forL]⟩
  | j :: js, vs, s, a, b, c, d, h, h0, hg, hl => by
    have hp2 := hp.pos
    simp only [List.length_cons] at hl
    obtain ⟨x, hx, b1, o1, r1⟩ := one_sum N h (fr := [.lst (vs.map tv)]) (n := 0) rfl rfl h0 (by omega)
    have h1 := h.sb o1
    have l1 : s.length = (FT.sb s b1).length := (sb_len s b1).symm
    obtain ⟨y, hy, b2, o2, r2⟩ := one_sum N h1 (fr := [.lst (vs.map tv)]) (n := 0) l1 rfl h0 (by omega)
    rw [sb_sb] at r2
    have h2 := h.sb o2
    obtain ⟨t, b3, o3, t0, t1, r3⟩ := take_fr N h2 [.lst (vs.map tv)] (many := p - 1) (by omega) (by omega)
    rw [sb_sb] at r3
    have h3 := h.sb o3
    obtain ⟨v1, b4, o4, g1, r4⟩ := sum_run N hp hn (h3.push [.lst (vs.map tv)])
    rw [sb_push h3, sb_sb] at r4
    have h4 := h.sb o4
    obtain ⟨v2, b5, o5, g2, r5⟩ := sum_run N hp hn (h4.push [.lst (vs.map tv)])
    rw [sb_push h4, sb_sb] at r5
    have h5 := h.sb o5
    have gx := hg x hx
    have gy := hg y hy
    have g3 : SumOk p n (addm p x (1 + t) y) := ⟨by rw [addm_len (by rw [gx.1, gy.1])]; exact gx.1, addm_in (by omega) _ _⟩
    obtain ⟨z, hz, b6, o6, r6⟩ := one_fr N h5 [.lst (vs.map tv)] (X := .lst ([v1, v2, addm p x (1 + t) y].map tv)) (xs := [v1, v2, addm p x (1 + t) y].map tv) (fun z => by cases z) rfl (pureAll_map _ pure_tv _) (by simp) (by simp)
    rw [sb_sb] at r6
    obtain ⟨w, hw, rfl⟩ := List.mem_map.mp hz
    have gw : SumOk p n w := by
      simp only [List.mem_cons, List.not_mem_nil, or_false] at hw
      rcases hw with e | e | e <;> rw [e] <;> assumption
    have h6 := h.sb o6
    have l6 : (FT.sb s b6).length = s.length := sb_len s b6
    obtain ⟨vs', bb, a', b', c', d', ob, n0, ng, nl, r⟩ := sums_loop N hp hn A js (vs ++ [w]) (FT.sb s b6) (some (.int j)) (some (tv x)) (some (tv y)) (some (tv (addm p x (1 + t) y))) h6 (by simp) (fun v hv' => by
      rcases List.mem_append.mp hv' with q | q
      · exact hg v q
      · rw [List.mem_singleton.mp q]; exact gw) (by simp; omega)
    rw [sb_sb, l6] at r
    refine ⟨vs', bb, a', b', c', d', ob, n0, ng, by rw [nl]; simp; omega, ?_⟩
    rw [← r]
    have q1 : (sPar 5 6 (eFn (m_law_one N) (aCons (eVar 0) (aCons (eVar 3) aNil))) (eFn (m_law_one N) (aCons (eVar 0) (aCons (eVar 3) aNil)))) [some (.ref 0 0), some (hv p n), A, some (.ref s.length 0), some (.int j), b, c, d] ([.lst (vs.map tv)] :: s) = .nx [some (.ref 0 0), some (hv p n), A, some (.ref s.length 0), some (.int j), some (tv x), some (tv y), d] ([.lst (vs.map tv)] :: FT.sb s b2) := by
      rw [run_par, eFn_val (f := m_law_one N) (a := aCons (eVar 0) (aCons (eVar 3) aNil)) (ρ := [some (.ref 0 0), some (hv p n), A, some (.ref s.length 0), some (.int j), b, c, d]) (s := [.lst (vs.map tv)] :: s) rfl r1, seq_ok, eFn_val (f := m_law_one N) (a := aCons (eVar 0) (aCons (eVar 3) aNil)) (ρ := [some (.ref 0 0), some (hv p n), A, some (.ref s.length 0), some (.int j), b, c, d]) (s := [.lst (vs.map tv)] :: FT.sb s b1) rfl r2, seq_ok]; rfl
    have pl := plus_run N (s := [.lst (vs.map tv)] :: FT.sb s b3) hp n (X := tv x) (Y := tv y) (k := 1 + t) rfl rfl (by omega) (by omega)
    have e3 := eOp_of (f := opAdd) (a := eC (.int 1)) (x := .int 1) (y := .int t) (z := .int (1 + t)) rfl (eFn_val (f := m_law_take N) (a := aCons (eVar 0) (aCons (eOp opSub (eOp opIx (eVar 1) (eC (.int 0))) (eC (.int 1))) aNil)) (ρ := [some (.ref 0 0), some (hv p n), A, some (.ref s.length 0), some (.int j), some (tv x), some (tv y), d]) (s := [.lst (vs.map tv)] :: FT.sb s b2) (xs := [.ref 0 0, .int (p - 1)]) (aCons_of rfl (aCons_of (r := aNil) (eOp_of (x := .int p) (y := .int 1) (eOp_of (x := hv p n) (y := .int 0) rfl rfl (hv0 _ p n)) rfl (opSub_int _ _ _)) rfl)) r3) (opAdd_int _ _ _)
    have e4 := eFn_of (f := m_law_plus N) (a := aCons (eVar 1) (aCons (eVar 5) (aCons (eOp opAdd (eC (.int 1)) (eFn (m_law_take N) (aCons (eVar 0) (aCons (eOp opSub (eOp opIx (eVar 1) (eC (.int 0))) (eC (.int 1))) aNil)))) (aCons (eVar 6) aNil)))) (aCons_of (e := eVar 1) rfl (aCons_of (e := eVar 5) rfl (aCons_of e3 (aCons_of (e := eVar 6) (r := aNil) rfl rfl)))) pl
    have e5 : (eCall bTuple (aCons (eFn (m_law_plus N) (aCons (eVar 1) (aCons (eVar 5) (aCons (eOp opAdd (eC (.int 1)) (eFn (m_law_take N) (aCons (eVar 0) (aCons (eOp opSub (eOp opIx (eVar 1) (eC (.int 0))) (eC (.int 1))) aNil)))) (aCons (eVar 6) aNil))))) aNil)) [some (.ref 0 0), some (hv p n), A, some (.ref s.length 0), some (.int j), some (tv x), some (tv y), d] ([.lst (vs.map tv)] :: FT.sb s b2) = .ok (tv (addm p x (1 + t) y)) ([.lst (vs.map tv)] :: FT.sb s b3) := by
      rw [run_call, aCons_of (r := aNil) e4 rfl, bind_ok]; rfl
    have q2 := sAsg_of (i := 7) e5
    have s1 := eFn_val (f := m_law_sum N) (a := aCons (eVar 0) (aCons (eVar 1) aNil)) (ρ := [some (.ref 0 0), some (hv p n), A, some (.ref s.length 0), some (.int j), some (tv x), some (tv y), some (tv (addm p x (1 + t) y))]) (s := [.lst (vs.map tv)] :: FT.sb s b3) rfl r4
    have s2 := eFn_val (f := m_law_sum N) (a := aCons (eVar 0) (aCons (eVar 1) aNil)) (ρ := [some (.ref 0 0), some (hv p n), A, some (.ref s.length 0), some (.int j), some (tv x), some (tv y), some (tv (addm p x (1 + t) y))]) (s := [.lst (vs.map tv)] :: FT.sb s b4) rfl r5
    have s3 := fLst_of (aCons_of s1 (aCons_of s2 (aCons_of (e := eVar 7) (r := aNil) (s1 := [.lst (vs.map tv)] :: FT.sb s b5) (x := tv (addm p x (1 + t) y)) rfl rfl)))
    have s4 := eFn_val (f := m_law_one N) (a := aCons (eVar 0) (aCons (eDead (fLst (aCons (eFn (m_law_sum N) (aCons (eVar 0) (aCons (eVar 1) aNil))) (aCons (eFn (m_law_sum N) (aCons (eVar 0) (aCons (eVar 1) aNil))) (aCons (eVar 7) aNil))))) aNil)) (aCons_of (e := eVar 0) rfl (aCons_of (r := aNil) s3 rfl)) r6
    have l3 : s.length = (FT.sb s b3).length := (sb_len s b3).symm
    have q3 := append_at (i := 3) (n := 0) (f := s.length) (fr := [.lst (vs.map tv)]) (s := FT.sb s b3) (s' := FT.sb s b6) (xs := vs.map tv) (v := tv w) l3 rfl (by rw [l6, l3]) s4 rfl (by rw [List.length_map]; omega)
    have body : l1_law_sums N [some (.ref 0 0), some (hv p n), A, some (.ref s.length 0), some (.int j), b, c, d] ([.lst (vs.map tv)] :: s) = .nx [some (.ref 0 0), some (hv p n), A, some (.ref s.length 0), some (.int j), some (tv x), some (tv y), some (tv (addm p x (1 + t) y))] ([.lst ((vs ++ [w]).map tv)] :: FT.sb s b6) := by
      rw [l1_law_sums_ap, run_cons, q1, then_nx, run_cons, q2, then_nx, run_cons]
      have es : [some (.ref 0 0), some (hv p n), A, some (.ref s.length 0), some (.int j), some (tv x), some (tv y), d].set 7 (some (tv (addm p x (1 + t) y))) = [some (.ref 0 0), some (hv p n), A, some (.ref s.length 0), some (Val.int j), some (tv x), some (tv y), some (tv (addm p x (1 + t) y))] := rfl
      rw [es, q3, then_nx]
      simp [sNil]
    simp only [List.map_cons, forL, if_true, FM.gName]
    show (match l1_law_sums N [some (.ref 0 0), some (hv p n), A, some (.ref s.length 0), some (.int j), b, c, d] _ with | .nx ρ2 s2 => _ | .ct ρ2 s2 => _ | .bk ρ2 s2 => _ | .rt v s2 => _ | .ex e s2 => _ | .no => _) = _
    rw [body]
theorem sums_run (N : Nat) {p : Int} (hp : Pr p) {n : Nat} (hn : n < 1000) {s : S} (h : HB s) {many : Int} (h1 : 1 ≤ many) (h2 : many < 100) : ∃ (vs : List (List Int)) (b : BagT), b.Ok ∧ vs ≠ [] ∧ (∀ v ∈ vs, SumOk p n v) ∧ vs.length < 200 ∧ m_law_sums N [.ref 0 0, hv p n, .int many] s = .ok (.cell (.lst (vs.map tv))) (FT.sb s b) := by
  obtain ⟨v, b1, o1, g1, r1⟩ := sum_run N hp hn (h.push [])
  rw [sb_push h] at r1
  have hb1 := h.sb o1
  have el : (FT.sb s b1).length = s.length := sb_len s b1
  obtain ⟨vs, b, a', b', c', d', o, n0, ng, nl, r⟩ := sums_loop N hp hn (some (.int many)) (List.range (many - 1).toNat) [v] (FT.sb s b1) none none none none hb1 (by simp) (fun w hw => by rw [List.mem_singleton.mp hw]; exact g1) (by simp; omega)
  rw [sb_sb, el] at r
  have el2 : (FT.sb s b).length = s.length := sb_len s b
  refine ⟨vs, b, o, n0, ng, by rw [nl]; simp; omega, ?_⟩
  have e0 := eFn_val (f := m_law_sum N) (a := aCons (eVar 0) (aCons (eVar 1) aNil)) (ρ := [some (.ref 0 0), some (hv p n), some (.int many), none, none, none, none, none]) (s := [] :: s) rfl r1
  have l0 : (eLive (fLst (aCons (eFn (m_law_sum N) (aCons (eVar 0) (aCons (eVar 1) aNil))) aNil))) [some (.ref 0 0), some (hv p n), some (.int many), none, none, none, none, none] ([] :: s) = .ok (.ref s.length 0) ([.lst [tv v]] :: FT.sb s b1) := by
    rw [live_lst (aCons_of (r := aNil) e0 rfl), ← el]; rfl
  have q0 := sAsg_of (i := 3) l0
  have it := range_of (a := eOp opSub (eVar 2) (eC (.int 1))) (ρ := [some (.ref 0 0), some (hv p n), some (.int many), some (.ref s.length 0), none, none, none, none]) (s := [.lst [tv v]] :: FT.sb s b1) (k := many - 1) (eOp_of (x := .int many) (y := .int 1) rfl rfl (opSub_int _ _ _)) (by omega) (by omega)
  have hb : b_law_sums N [some (.ref 0 0), some (hv p n), some (.int many), none, none, none, none, none] ([] :: s) = .rt (.ref s.length 0) ([.lst (vs.map tv)] :: FT.sb s b) := by
    rw [b_law_sums, run_cons, q0, then_nx, run_cons]
    have es : [some (.ref 0 0), some (hv p n), some (.int many), none, none, none, none, none].set 3 (some (Val.ref s.length 0)) = [some (.ref 0 0), some (hv p n), some (.int many), some (.ref s.length 0), none, none, none, none] := rfl
    rw [es, sFor_of it]
    dsimp only
    have r' : forL (fun _ => true) (FM.gName 4) (l1_law_sums N) ((List.range (many - 1).toNat).map fun (j : Nat) => Val.int (j : Int)) [some (.ref 0 0), some (hv p n), some (.int many), some (.ref s.length 0), none, none, none, none] ([.lst [tv v]] :: FT.sb s b1) = _ := r
    rw [r', then_nx, run_cons, sRet_of (e := eVar 3) (v := .ref s.length 0) rfl]; rfl
  have rc : retOf (FT.sb s b).length [.lst (vs.map tv)] (.ref s.length 0) = some (.cell (.lst (vs.map tv))) := by rw [el2]; exact retOf_cell rfl (pureAll_map _ pure_tv _)
  exact mkFn_ret rfl rfl hb rc
theorem takes_comp (N : Nat) {p : Int} (hp : Pr p) (n : Nat) : ∀ (js : List Nat) (acc : List Int) (s : S), HB s → InR p acc →
    ∃ (ws : List Int) (b : BagT), b.Ok ∧ ws.length = acc.length + js.length ∧ InR p ws ∧ compL (fun _ => true) (FM.gName 2) tYes (eFn (m_law_take N) (aCons (eVar 0) (aCons (eOp opIx (eVar 1) (eC (.int 0))) aNil))) [some (.ref 0 0), some (hv p n), none] (js.map fun (j : Nat) => Val.int (j : Int)) (vi acc) ([] :: s) = .ok (vi ws) ([] :: FT.sb s b)
  | [], acc, s, h, hi => by
    obtain ⟨b, o, e⟩ := h.self
    exact ⟨acc, b, o, by simp, hi, by rw [e]; simp [compL]⟩
  | j :: js, acc, s, h, hi => by
    have hp2 := hp.pos
    obtain ⟨v, b1, o1, v0, v1, r1⟩ := take_fr N h [] (many := p) (by omega) (by omega)
    have h1 := h.sb o1
    obtain ⟨ws, b, o, wl, wi, r⟩ := takes_comp N hp n js (acc ++ [v]) (FT.sb s b1) h1 (fun x hx => by
      rcases List.mem_append.mp hx with q | q
      · exact hi x q
      · rw [List.mem_singleton.mp q]; exact ⟨v0, v1⟩)
    rw [sb_sb] at r
    refine ⟨ws, b, o, by rw [wl]; simp; omega, wi, ?_⟩
    have e := eFn_val (f := m_law_take N) (a := aCons (eVar 0) (aCons (eOp opIx (eVar 1) (eC (.int 0))) aNil)) (ρ := [some (.ref 0 0), some (hv p n), some (.int j)]) (s := [] :: s) (xs := [.ref 0 0, .int p]) (aCons_of rfl (aCons_of (r := aNil) (eOp_of (x := hv p n) (y := .int 0) rfl rfl (hv0 _ p n)) rfl)) r1
    rw [← r]
    simp only [List.map_cons, compL, if_true, FM.gName, FM.tYes, vi_append, vi_cons, vi_nil]
    show (FM.R.ok true ([] :: s)).bind (fun b s1 => if b = true then (eFn _ _ [some (.ref 0 0), some (hv p n), some (.int j)] s1).bind _ else _) = _
    rw [bind_ok, if_pos rfl, e, bind_ok]
theorem world_run0 (N : Nat) {p : Int} (hp : Pr p) {n : Nat} (hn : n < 1000) {s : S} (h : HB s) : ∃ (w : List Int) (b : BagT), b.Ok ∧ SumOk p n w ∧ m_law_world N [.ref 0 0, hv p n] s = .ok (.val (tv w)) (FT.sb s b) := by
  obtain ⟨w, b, o, wl, wi, r⟩ := takes_comp N hp n (List.range n) [] s h (by intro x hx; cases hx)
  refine ⟨w, b, o, ⟨by simpa using wl, wi⟩, ?_⟩
  have it := range_of (a := eOp opIx (eVar 1) (eC (.int 1))) (ρ := [some (.ref 0 0), some (hv p n), none]) (s := [] :: s) (k := n) (eOp_of (x := hv p n) (y := .int 1) rfl rfl (hv1 _ p n)) (by omega) (by omega)
  have cc : fComp (iRange1 (eOp opIx (eVar 1) (eC (.int 1)))) [2] (FM.gName 2) tYes (eFn (m_law_take N) (aCons (eVar 0) (aCons (eOp opIx (eVar 1) (eC (.int 0))) aNil))) [some (.ref 0 0), some (hv p n), none] ([] :: s) = .ok (vi w) ([] :: FT.sb s b) := by
    show (iRange1 _ _ _).bind _ = _
    rw [it, bind_ok, Int.toNat_natCast]
    show (compL _ _ _ _ [some (.ref 0 0), some (hv p n), none] _ (vi []) _).nox = _
    rw [r]; rfl
  have hb : b_law_world N [some (.ref 0 0), some (hv p n), none] ([] :: s) = .rt (tv w) ([] :: FT.sb s b) := by
    rw [b_law_world, run_cons, sRet_of (eTupleF_of cc)]; rfl
  exact mkFn_ret rfl rfl hb (retOf_pure (pure_tv w))
end FT

set_option autoImplicit false
/-! rows that hang on none -/
namespace FT
open PySem PySem.Spec PyProof.Rows L2 FM LN
local instance : Tbl := ⟨[]⟩
structure BInv (p : Int) (n : Nat) (P F : List (List Int × Int)) (peace : Bool) : Prop where
  ok : ∀ r ∈ F, RowOk p n r
  el : elim p n (F.map sn) = ((elim p n (P.map sn)).1, [])
  len : F.length = (elim p n (P.map sn)).1.length
  pc : peace = (elim p n (P.map sn)).2.all fun w => decide (at0 w n = 0)
  low : F.length ≤ P.length
theorem flats_take {p : Int} {n : Nat} (m : Nat) : ∀ (R : List (List Int × Int)) (k : Nat), (∀ r ∈ R, RowOk p n r) → (flats m k R).map (List.take (n + 1)) = R.map sn
  | [], _, _ => rfl
  | r :: R, k, h => by
    rw [flats_cons, List.map_cons, List.map_cons, flats_take m R (k + 1) fun q hq => h q (List.mem_cons_of_mem _ hq)]
    congr 1
    rw [List.take_append_of_le_length (by rw [sn_len (h r List.mem_cons_self)]; omega), List.take_of_length_le (by rw [sn_len (h r List.mem_cons_self)]; omega)]
theorem elim_flats {p : Int} {n : Nat} (m : Nat) {R : List (List Int × Int)} (h : ∀ r ∈ R, RowOk p n r) :
    elim p n (R.map sn) = ((elim p n (flats m 0 R)).1.map (tk (n + 1)), (elim p n (flats m 0 R)).2.map (List.take (n + 1))) := by
  rw [← flats_take m R 0 h, elim_take (by omega)]
theorem sn_ei {p : Int} (hp : Pr p) {n : Nat} {P : List (List Int × Int)} (h : ∀ r ∈ P, RowOk p n r) : EI p n (n + 1) (P.map sn) (elim p n (P.map sn)) := by
  refine ei_elim hp (by omega) _ (fun v hv => ?_) fun v hv => ?_
  · obtain ⟨r, hr, rfl⟩ := List.mem_map.mp hv; exact sn_len (h r hr)
  · obtain ⟨r, hr, rfl⟩ := List.mem_map.mp hv; exact sn_in (h r hr)
/-- the law's answer, by the program's line -/
theorem given_is {p : Int} (hp : Pr p) {n : Nat} {P F : List (List Int × Int)} {peace : Bool} (hP : ∀ r ∈ P, RowOk p n r) (b : BInv p n P F peace) {r : List Int × Int} (hr : RowOk p n r) :
    (elim p n (flats F.length 0 F)).2 = [] ∧ ∃ z t, givenV p n (red p (elim p n (flats F.length 0 F)).1 (r.1 ++ List.replicate (1 + F.length) 0)) = (if fnz ((red p (elim p n (P.map sn)).1 (sn r)).take n) = none then .tup [.int z, t] else .non) ∧
      decide (z = r.2) = decide (at0 (red p (elim p n (P.map sn)).1 (sn r)) n = 0) := by
  have ef := elim_flats F.length b.ok
  rw [b.el] at ef
  have e2 : (elim p n (flats F.length 0 F)).2 = [] := by
    have := (Prod.mk.inj ef).2
    exact List.map_eq_nil_iff.mp this.symm
  have e1 := (Prod.mk.inj ef).1
  refine ⟨e2, ?_⟩
  have lo := elim_low (p := p) (n := n) (flats F.length 0 F)
  have rt := red_take (p := p) (M := n + 1) (elim p n (flats F.length 0 F)).1 (r.1 ++ List.replicate (1 + F.length) 0) fun l hl => by have := lo l hl; omega
  rw [← e1] at rt
  have tk1 : (r.1 ++ List.replicate (1 + F.length) (0 : Int)).take (n + 1) = r.1 ++ [0] := by
    have h1 := hr.1
    rw [List.take_append, List.take_of_length_le (by omega), h1, show n + 1 - n = 1 by omega, Nat.add_comm, List.replicate_succ]; rfl
  rw [tk1] at rt
  have ei := sn_ei hp hP
  obtain ⟨g1, g2⟩ := given_row hp ei.steps ei.low hr.1 hr.2.1 hr.2.2
  generalize (red p (elim p n (flats F.length 0 F)).1 (r.1 ++ List.replicate (1 + F.length) 0)) = w at *
  have t1 : w.take n = (red p (elim p n (P.map sn)).1 (r.1 ++ [0])).take n := by rw [← rt, List.take_take, Nat.min_eq_left (by omega)]
  have t2 : at0 w n = at0 (red p (elim p n (P.map sn)).1 (r.1 ++ [0])) n := by rw [← rt, at0_take, if_pos (by omega)]
  refine ⟨-1 * at0 w n % p, .tup (vi ((mulm p (-1) (w.drop n)).drop 1)), ?_, ?_⟩
  · unfold givenV; rw [t1, g1]
  · rw [t2, show -1 * at0 (red p (elim p n (P.map sn)).1 (r.1 ++ [0])) n = -at0 (red p (elim p n (P.map sn)).1 (r.1 ++ [0])) n by omega]; exact g2
theorem binv_nil (p : Int) (n : Nat) : BInv p n [] [] true := ⟨by simp, rfl, rfl, rfl, Nat.le_refl _⟩
end FT

set_option autoImplicit false
/-! what a sum comes to -/
namespace FT
open PySem PySem.Spec PyProof.Rows L2 FM LN
local instance : Tbl := ⟨[]⟩
theorem comes_comp {ρ : FM.Env} {s : S} {p : Int} (hp : Pr p) {W : Val} {u w : List Int} (hu : InR p u) (hW : asQ s W = some (vi w)) (e1 : ρ[1]? = some (some W)) (e2 : ρ[2]? = some (some (tv u))) (hl : 4 < ρ.length) :
    eCall bSum (aCons (eDead (fComp (iZip (eVar 2) (eVar 1)) [3, 4] (FM.gTup [FM.gName 3, FM.gName 4]) tYes (eOp opMul (eVar 3) (eVar 4)))) aNil) ρ s = .ok (.int (dot u w)) s := by
  have hp2 := hp.pos
  have g1 : eVar 1 ρ s = .ok W s := by rw [run_var, e1]
  have g2 : eVar 2 ρ s = .ok (tv u) s := by rw [run_var, e2]
  have it : iZip (eVar 2) (eVar 1) ρ s = .ok ((u.zip w).map fun q => Val.tup [.int q.1, .int q.2], fun s => still (tv u) (vi u) s && still W (vi w) s) s := by
    rw [run_zip, g2, bind_ok, g1, bind_ok, asQ_tv, hW]
    simp only [vzip]
  have kp : (still (tv u) (vi u) s && still W (vi w) s) = true := by rw [still_of (asQ_tv s u), still_of hW]; rfl
  have comp := compL_all (keep := fun s => still (tv u) (vi u) s && still W (vi w) s) (g := FM.gTup [FM.gName 3, FM.gName 4]) (e := eOp opMul (eVar 3) (eVar 4)) (ρ := FM.wipe ρ [3, 4]) (s := s) (fun q : Int × Int => Val.tup [.int q.1, .int q.2]) (fun q => .int (q.1 * q.2)) kp (u.zip w) fun q hq => by
    have hq1 := hu q.1 (List.of_mem_zip hq).1
    have f4 : (((FM.wipe ρ [3, 4]).set 3 (some (.int q.1))).set 4 (some (.int q.2)))[4]? = some (some (.int q.2)) := List.getElem?_set_self (by simpa [FM.wipe] using hl)
    have f3 : (((FM.wipe ρ [3, 4]).set 3 (some (.int q.1))).set 4 (some (Val.int q.2)))[3]? = some (some (.int q.1)) := by
      rw [List.getElem?_set_ne (by decide)]; exact List.getElem?_set_self (by simp only [FM.wipe, List.length_set]; omega)
    refine ⟨((FM.wipe ρ [3, 4]).set 3 (some (.int q.1))).set 4 (some (.int q.2)), rfl, ?_⟩
    have g3 : eVar 3 (((FM.wipe ρ [3, 4]).set 3 (some (.int q.1))).set 4 (some (.int q.2))) s = .ok (.int q.1) s := by rw [run_var, f3]
    have g4 : eVar 4 (((FM.wipe ρ [3, 4]).set 3 (some (.int q.1))).set 4 (some (.int q.2))) s = .ok (.int q.2) s := by rw [run_var, f4]
    exact eOp_of g3 g4 (opMul_sml (by omega) (by omega))
  have e : ((u.zip w).map fun q => Val.int (q.1 * q.2)) = vi ((u.zip w).map fun q => q.1 * q.2) := by simp [vi]
  have cc : fComp (iZip (eVar 2) (eVar 1)) [3, 4] (FM.gTup [FM.gName 3, FM.gName 4]) tYes (eOp opMul (eVar 3) (eVar 4)) ρ s = .ok (vi ((u.zip w).map fun q => q.1 * q.2)) s := by
    show (iZip (eVar 2) (eVar 1) ρ s).bind _ = _
    rw [it, bind_ok]
    show (compL _ _ tYes _ (FM.wipe ρ [3, 4]) _ [] s).nox = _
    rw [comp, e]; rfl
  rw [run_call, aCons_of (r := aNil) (eDead_of cc) rfl, bind_ok, bSum_vi]
  rfl
theorem comesL_run (N : Nat) {s : S} {p : Int} (hp : Pr p) (n : Nat) {W : Val} {u w : List Int} (hu : InR p u) (hW : asQ s W = some (vi w)) : m_law_comes_to N [hv p n, W, tv u] s = .ok (.val (.int (dot u w % p))) s := by
  have c := comes_comp (ρ := [some (hv p n), some W, some (tv u), none, none]) (s := [] :: s) hp hu (asQ_push hW) rfl rfl (by simp)
  have a := aCons_of (r := aCons (eOp opIx (eVar 0) (eC (.int 0))) aNil) c (aCons_of (r := aNil) (eOp_of rfl rfl (hv0 _ p n)) rfl)
  have f := rest_run N ([] :: s) hp (dot u w)
  have m : (eFnL (m_law_rest N) (aCons (eCall bSum (aCons (eDead (fComp (iZip (eVar 2) (eVar 1)) [3, 4] (FM.gTup [FM.gName 3, FM.gName 4]) tYes (eOp opMul (eVar 3) (eVar 4)))) aNil)) (aCons (eOp opIx (eVar 0) (eC (.int 0))) aNil))) [some (hv p n), some W, some (tv u), none, none] ([] :: s) = .ok (.int (dot u w % p)) ([] :: s) := by
    rw [run_fnL, a, bind_ok, f]; rfl
  have r := sRet_of m
  show (match (sCons (sRet _) sNil) [some (hv p n), some W, some (tv u), none, none] ([] :: s) with
    | .rt v s1 => finish v s1
    | .nx _ s1 => finish .non s1
    | _ => .no) = _
  rw [run_cons, r, then_rt]
  show FM.finish _ ([] :: s) = _
  rw [finish_cons, retOf_int]; rfl
end FT

set_option autoImplicit false
/-! histories are drawn: what they are -/
namespace FT
open PySem PySem.Spec PyProof.Rows L2 FM LN
local instance : Tbl := ⟨[]⟩
/-- s is s0, its bag changed -/
structure SB (s0 s : S) : Prop where
  hb : HB s
  ex : ∃ b : BagT, b.Ok ∧ s = FT.sb s0 b
theorem SB.refl {s : S} (h : HB s) : SB s s := ⟨h, let ⟨b, o, e⟩ := h.self; ⟨b, o, e.symm⟩⟩
theorem SB.to {s0 s : S} (h : SB s0 s) {b : BagT} (o : b.Ok) : SB s0 (FT.sb s b) := ⟨h.hb.sb o, by
  obtain ⟨b', _, rfl⟩ := h.ex
  exact ⟨b, o, sb_sb _ _ _⟩⟩
theorem SB.len {s0 s : S} (h : SB s0 s) : s.length = s0.length := by
  obtain ⟨b, _, rfl⟩ := h.ex
  exact sb_len _ _
theorem SB.trans {a b c : S} (h : SB a b) (k : SB b c) : SB a c := ⟨k.hb, by
  obtain ⟨x, _, rfl⟩ := h.ex
  obtain ⟨y, oy, rfl⟩ := k.ex
  exact ⟨y, oy, sb_sb _ _ _⟩⟩
/-- a draw: only the bag is changed -/
def DrawF (f : Fn) (args : List Val) (s : S) (G : Ret → Prop) : Prop := ∃ r b, BagT.Ok b ∧ G r ∧ f args s = .ok r (FT.sb s b)
theorem we_draw {f : Fn} {args : List Val} {fr : List Cell} {s0 s : S} {G : Ret → Prop} {Q : Ret → S → Prop} (h : SB s0 s) (d : DrawF f args (fr :: s) G) (k : ∀ r s', SB s0 s' → G r → Q r (fr :: s')) : WE (f args (fr :: s)) Q := by
  obtain ⟨r, b, o, g, e⟩ := d
  rw [sb_push h.hb] at e
  exact we_of e (k r _ (h.to o) g)
theorem we_draw0 {f : Fn} {args : List Val} {s0 s : S} {G : Ret → Prop} {Q : Ret → S → Prop} (h : SB s0 s) (d : DrawF f args s G) (k : ∀ r s', SB s0 s' → G r → Q r s') : WE (f args s) Q := by
  obtain ⟨r, b, o, g, e⟩ := d
  exact we_of e (k r _ (h.to o) g)
theorem mk_draw {n np : Nat} {body : Sx} {args : List Val} {s : S} {G : Ret → Prop} (ha : args.length = np) (h : HB s)
    (hw : SB s s → WS (body (args.map some ++ List.replicate (n - np) none) ([] :: s)) (fun _ _ => False) (fun v s1 => ∃ fr s', s1 = fr :: s' ∧ SB s s' ∧ ∃ r, retOf s.length fr v = some r ∧ G r)) : DrawF (mkFn n np body) args s G := by
  have hw := hw (SB.refl h)
  cases hb : body (args.map some ++ List.replicate (n - np) none) ([] :: s) with
  | rt v s1 =>
    rw [hb] at hw
    obtain ⟨fr, s', rfl, sb', r, e, g⟩ := hw
    obtain ⟨b, o, rfl⟩ := sb'.ex
    refine ⟨r, b, o, g, mkFn_ret ha rfl hb ?_⟩
    rw [sb_len]; exact e
  | nx _ _ => rw [hb] at hw; exact hw.elim
  | bk _ _ => rw [hb] at hw; exact hw.elim
  | ct _ _ => rw [hb] at hw; exact hw.elim
  | ex _ _ => rw [hb] at hw; exact hw.elim
  | no => rw [hb] at hw; exact hw.elim
/-- a def runs -/
theorem mk_we {n np : Nat} {body : Sx} {args : List Val} {s : S} {Q : Ret → S → Prop} (ha : args.length = np)
    (hw : WS (body (args.map some ++ List.replicate (n - np) none) ([] :: s)) (fun _ _ => False) (fun v s1 => ∃ fr s', s1 = fr :: s' ∧ ∃ r, retOf s'.length fr v = some r ∧ Q r s')) : WE (mkFn n np body args s) Q := by
  cases hb : body (args.map some ++ List.replicate (n - np) none) ([] :: s) with
  | rt v s1 =>
    rw [hb] at hw
    obtain ⟨fr, s', rfl, r, e, q⟩ := hw
    exact ⟨r, s', mkFn_ret ha rfl hb e, q⟩
  | nx _ _ => rw [hb] at hw; exact hw.elim
  | bk _ _ => rw [hb] at hw; exact hw.elim
  | ct _ _ => rw [hb] at hw; exact hw.elim
  | ex _ _ => rw [hb] at hw; exact hw.elim
  | no => rw [hb] at hw; exact hw.elim
/-- a def that changes nothing -/
theorem mk_same {n np : Nat} {body : Sx} {args : List Val} {s : S} {r : Ret} (ha : args.length = np)
    (hw : WS (body (args.map some ++ List.replicate (n - np) none) ([] :: s)) (fun _ _ => False) (fun v s1 => ∃ fr, s1 = fr :: s ∧ retOf s.length fr v = some r)) : mkFn n np body args s = .ok r s := by
  cases hb : body (args.map some ++ List.replicate (n - np) none) ([] :: s) with
  | rt v s1 =>
    rw [hb] at hw
    obtain ⟨fr, rfl, e⟩ := hw
    exact mkFn_ret ha rfl hb e
  | nx _ _ => rw [hb] at hw; exact hw.elim
  | bk _ _ => rw [hb] at hw; exact hw.elim
  | ct _ _ => rw [hb] at hw; exact hw.elim
  | ex _ _ => rw [hb] at hw; exact hw.elim
  | no => rw [hb] at hw; exact hw.elim
def GV (P : Val → Prop) : Ret → Prop := fun r => ∃ v, r = .val v ∧ P v
theorem draw_end {s0 s : S} {v : Val} {fr : List Cell} {P : Val → Prop} (h : SB s0 s) (hp : FM.pure v = true) (g : P v) : ∃ fr' s', fr :: s = fr' :: s' ∧ SB s0 s' ∧ ∃ r, retOf s0.length fr' v = some r ∧ GV P r := ⟨fr, s, rfl, h, _, retOf_pure hp, _, rfl, g⟩
theorem DrawF.mono {f : Fn} {args : List Val} {s : S} {G G' : Ret → Prop} (d : DrawF f args s G) (h : ∀ r, G r → G' r) : DrawF f args s G' := let ⟨r, b, o, g, e⟩ := d; ⟨r, b, o, h r g, e⟩
/-! ### what is drawn again and again -/
theorem take_d (N : Nat) {s : S} (h : HB s) {many : Int} (hm : 0 < many) (hm2 : many < 2 ^ 30) : DrawF (m_law_take N) [.ref 0 0, .int many] s (GV fun v => ∃ i, v = .int i ∧ 0 ≤ i ∧ i < many) := by
  obtain ⟨v, b, o, v0, v1, r⟩ := take_run N h hm hm2
  exact ⟨_, b, o, ⟨_, rfl, v, rfl, v0, v1⟩, r⟩
theorem one_d (N : Nat) {s : S} (h : HB s) {X : Val} {xs : List Val} (hX : X ≠ .ref 0 0) (e : asQ s X = some xs) (hp : pureAll xs = true) (h0 : xs ≠ []) (hl : xs.length < 1000) : DrawF (m_law_one N) [.ref 0 0, X] s (GV fun v => v ∈ xs) := by
  obtain ⟨x, hx, b, o, r⟩ := one_run N h hX e hp h0 hl
  exact ⟨_, b, o, ⟨_, rfl, hx⟩, r⟩
theorem one_i (N : Nat) {s : S} (h : HB s) (l : List Int) {X : Val} (eX : X = .lst (vi l)) (h0 : l ≠ []) (hl : l.length < 1000) (lo hi : Int) (hb : ∀ k ∈ l, lo ≤ k ∧ k ≤ hi) : DrawF (m_law_one N) [.ref 0 0, X] s (GV fun v => ∃ k, v = .int k ∧ lo ≤ k ∧ k ≤ hi) := by
  subst eX
  refine (one_d N h (X := .lst (vi l)) (xs := vi l) (fun z => by cases z) rfl (pureAll_vi l) (by cases l with | nil => exact absurd rfl h0 | cons a l => simp) (by simpa using hl)).mono ?_
  rintro _ ⟨v, rfl, hv'⟩
  obtain ⟨k, hk, rfl⟩ := List.mem_map.mp hv'
  exact ⟨_, rfl, k, rfl, hb k hk⟩
/-! ### the shapes -/
inductive Deed where
  | ask (v : List Int)
  | tell (v : List Int) (k : Int)
def Deed.V : Deed → Val
  | .ask v => .tup [.str "ask", tv v]
  | .tell v k => .tup [.str "tell", tv v, .int k]
def Deed.sum : Deed → List Int
  | .ask v => v
  | .tell v _ => v
def Deed.row : Deed → List Int × Int
  | .ask v => (v, 0)
  | .tell v k => (v, k)
def DeedOk (p : Int) (n : Nat) (d : Deed) : Prop := RowOk p n d.row
inductive Ans where
  | new | known | clash | opn
  | num (k : Int)
  | non
  deriving DecidableEq
def Ans.Fits : Deed → Ans → Prop
  | .ask _, .opn => True
  | .ask _, .num _ => True
  | .tell _ _, .new => True
  | .tell _ _, .known => True
  | .tell _ _, .clash => True
  | _, _ => False
def Ans.V : Ans → Val
  | .new => .str "new"
  | .known => .str "known"
  | .clash => .str "clash"
  | .opn => .str "open"
  | .num k => .int k
  | .non => .non
def AnsOk (p : Int) : Ans → Prop
  | .num k => 0 ≤ k ∧ k < p
  | _ => True
def oi : Option Int → Val
  | none => .non
  | some k => .int k
@[simp] theorem oi_none : oi none = .non := rfl
@[simp] theorem oi_some (k : Int) : oi (some k) = .int k := rfl
structure CallT where
  deed : Deed
  beg : Int
  fin : Option Int
  ans : Option Ans
def CallT.tail (c : CallT) : List Val := match c.ans with
  | none => []
  | some a => [a.V]
def CallT.V (c : CallT) : Val := .tup (c.deed.V :: .int c.beg :: oi c.fin :: c.tail)
/-- plan: no answers -/
structure CallOk (p : Int) (n : Nat) (plan : Bool) (B : Int) (c : CallT) : Prop where
  deed : DeedOk p n c.deed
  beg : -B ≤ c.beg ∧ c.beg ≤ B
  fin : ∀ e, c.fin = some e → -B ≤ e ∧ e ≤ B
  ans : c.ans.isNone = plan
  ansOk : ∀ a, c.ans = some a → AnsOk p a
  fits : ∀ a, c.ans = some a → a ≠ .non → Ans.Fits c.deed a
  pfin : plan = true → c.fin ≠ none
  ord : ∀ e, c.fin = some e → c.beg ≤ e
def whatV (p : Int) (n : Nat) (cs : List CallT) : Val := .tup [hv p n, .tup (cs.map CallT.V)]
def WhatOk (p : Int) (n : Nat) (plan : Bool) (B : Int) (m : Nat) (cs : List CallT) : Prop := (∀ c ∈ cs, CallOk p n plan B c) ∧ cs.length ≤ m
theorem pure_deed (d : Deed) : FM.pure d.V = true := by cases d <;> simp [Deed.V, FM.pure, pureAll, tv] <;> decide +kernel
theorem pure_ans (a : Ans) : FM.pure a.V = true := by cases a <;> simp [Ans.V, FM.pure] <;> decide +kernel
theorem pure_oi (o : Option Int) : FM.pure (oi o) = true := by cases o <;> rfl
theorem pure_tail (c : CallT) : pureAll c.tail = true := by
  unfold CallT.tail
  cases c.ans with
  | none => rfl
  | some a => simp [pureAll, pure_ans]
theorem pure_call (c : CallT) : FM.pure c.V = true := by simp [CallT.V, FM.pure, pureAll, pure_deed, pure_oi, pure_tail]
theorem pure_what (p : Int) (n : Nat) (cs : List CallT) : FM.pure (whatV p n cs) = true := by
  simp only [whatV, FM.pure, pureAll, Bool.and_true, Bool.and_eq_true]
  exact ⟨pure_hv p n, pureAll_map _ pure_call cs⟩
theorem CallOk.mono {p : Int} {n : Nat} {plan : Bool} {B B' : Int} {c : CallT} (h : CallOk p n plan B c) (hB : B ≤ B') : CallOk p n plan B' c :=
  ⟨h.deed, by have := h.beg; omega, fun e he => by have := h.fin e he; omega, h.ans, h.ansOk, h.fits, h.pfin, h.ord⟩
theorem WhatOk.mono {p : Int} {n : Nat} {plan : Bool} {B B' : Int} {m : Nat} {cs : List CallT} (h : WhatOk p n plan B m cs) (hB : B ≤ B') : WhatOk p n plan B' m cs := ⟨fun c hc => (h.1 c hc).mono hB, h.2⟩
theorem ix_cons {x : Val} {xs : List Val} (s : S) (i : Nat) {y : Val} (h : (x :: xs)[i]? = some y) : opIx s (.tup (x :: xs)) (.int i) = some y := by
  obtain ⟨hl, _⟩ := List.getElem?_eq_some_iff.mp h
  simp only [opIx, asQ]
  rw [show FM.ixN (x :: xs).length (i : Int) = some i by
    unfold FM.ixN
    rw [if_pos (by omega), if_pos (by omega), Int.toNat_natCast]]
  exact h
theorem ixc0 (s : S) (c : CallT) : opIx s c.V (.int 0) = some c.deed.V := ix_cons s 0 rfl
theorem ixc1 (s : S) (c : CallT) : opIx s c.V (.int 1) = some (.int c.beg) := ix_cons s 1 rfl
theorem ixc2 (s : S) (c : CallT) : opIx s c.V (.int 2) = some (oi c.fin) := ix_cons s 2 rfl
theorem ixc3 (s : S) {c : CallT} {a : Ans} (h : c.ans = some a) : opIx s c.V (.int 3) = some a.V := by
  refine ix_cons s 3 ?_
  unfold CallT.tail; rw [h]; rfl
end FT

set_option autoImplicit false
/-! a store's answers, deeds, stretches -/
namespace FT
open PySem PySem.Spec PyProof.Rows L2 FM LN
local instance : Tbl := ⟨[]⟩
/-- rows that hang on none -/
def Ind (p : Int) (n : Nat) (R : List (List Int × Int)) : Prop := BInv p n R R true
theorem ind_nil (p : Int) (n : Nat) : Ind p n [] := binv_nil p n
theorem Ind.row {p : Int} {n : Nat} {R : List (List Int × Int)} (h : Ind p n R) {r : List Int × Int} (hr : RowOk p n r) (hz : ∀ a, fnz ((red p (elim p n (R.map sn)).1 (sn r)).take n) = some a → True) (hn : fnz ((red p (elim p n (R.map sn)).1 (sn r)).take n) ≠ none) : Ind p n (R ++ [r]) := by
  have es : elim p n ((R ++ [r]).map sn) = stepE p n (elim p n (R.map sn)) (sn r) := by rw [List.map_append, List.map_cons, List.map_nil, elim_snoc]
  have el := h.el
  have pc := h.pc
  have len := h.len
  unfold stepE at es
  cases hz : fnz ((red p (elim p n (R.map sn)).1 (sn r)).take n) with
  | none => exact absurd hz hn
  | some a =>
    rw [hz] at es
    simp only at es
    have e2 : (elim p n (R.map sn)).2 = [] := by rw [el]
    refine ⟨fun q hq => ?_, ?_, ?_, ?_, Nat.le_refl _⟩
    · rcases List.mem_append.mp hq with hq | hq
      · exact h.ok q hq
      · rw [List.mem_singleton.mp hq]; exact hr
    · rw [es]; simp only [e2]
    · rw [es]; simp [len]
    · rw [es]; simp only [e2]; rfl
theorem giv_cases {p : Int} (hp : Pr p) {n : Nat} {R : List (List Int × Int)} (h : Ind p n R) {r : List Int × Int} (hr : RowOk p n r) :
    (elim p n (flats R.length 0 R)).2 = [] ∧ ((givenV p n (red p (elim p n (flats R.length 0 R)).1 (r.1 ++ List.replicate (1 + R.length) 0)) = .non ∧ Ind p n (R ++ [r])) ∨ ∃ z t, givenV p n (red p (elim p n (flats R.length 0 R)).1 (r.1 ++ List.replicate (1 + R.length) 0)) = .tup [.int z, .tup (vi t)] ∧ 0 ≤ z ∧ z < p) := by
  obtain ⟨e, z, t, gv, _⟩ := given_is hp h.ok h hr
  refine ⟨e, ?_⟩
  by_cases hn : fnz ((red p (elim p n (R.map sn)).1 (sn r)).take n) = none
  · right
    rw [if_pos hn] at gv
    unfold givenV at gv ⊢
    split at gv
    · rename_i h1
      rw [if_pos h1]
      exact ⟨_, _, rfl, Int.emod_nonneg _ (by have := hp.pos; omega), Int.emod_lt_of_pos _ (by have := hp.pos; omega)⟩
    · cases gv
  · left
    rw [if_neg hn] at gv
    exact ⟨gv, h.row hr (fun _ _ => trivial) hn⟩
theorem answer_run (N : Nat) {p : Int} (hp : Pr p) {n : Nat} (hn : n < 100) {s : S} {X : Val} {R : List (List Int × Int)} (hX : asQ s X = some (R.map rv)) (h : Ind p n R) (hm : R.length < 500) {d : Deed} (hd : DeedOk p n d) :
    ∃ a : Ans, m_law_answer N [hv p n, X, d.V] s = .ok (.val a.V) s ∧ AnsOk p a ∧ Ans.Fits d a ∧ (a = .new → Ind p n (R ++ [d.row])) := by
  obtain ⟨e, g⟩ := giv_cases hp h hd
  have gr := given_run N hp hn (s := [] :: s) hm (asQ_push hX) h.ok e hd.1 hd.2.1
  cases d with
  | ask v =>
    rcases g with ⟨g, i⟩ | ⟨z, t, g, z0, z1⟩
    · rw [g] at gr
      refine ⟨.opn, mk_same rfl ?_, trivial, trivial, fun z => by cases z⟩
      unfold b_law_answer
      walk_at "my wp0"; walk_at "my wp"
      refine we_of gr ?_
      walk_at "my wp"; walk_at "my wpT"
      walk_at "my wp"; walk_at "my wpT"
      walk_at "my wp"
      exact retOf_pure (pure_ans .opn)
    · rw [g] at gr
      refine ⟨.num z, mk_same rfl ?_, ⟨z0, z1⟩, trivial, fun z => by cases z⟩
      unfold b_law_answer
      walk_at "my wp0"; walk_at "my wp"
      refine we_of gr ?_
      walk_at "my wp"; walk_at "my wpT"
      walk_at "my wp"; walk_at "my wpF"
      walk_at "my wp"
      exact retOf_pure (pure_ans (.num z))
  | tell v k =>
    rcases g with ⟨g, i⟩ | ⟨z, t, g, z0, z1⟩
    · rw [g] at gr
      refine ⟨.new, mk_same rfl ?_, trivial, trivial, fun _ => i⟩
      unfold b_law_answer
      walk_at "my wp0"; walk_at "my wp"
      refine we_of gr ?_
      walk_at "my wp"; walk_at "my wpF"
      walk_at "my wp"; walk_at "my wpT"
      walk_at "my wp"
      exact retOf_pure (pure_ans .new)
    · rw [g] at gr
      refine ⟨if z = k then .known else .clash, mk_same rfl ?_, by split <;> trivial, by split <;> trivial, fun z => by split at z <;> cases z⟩
      unfold b_law_answer
      walk_at "my wp0"; walk_at "my wp"
      refine we_of gr ?_
      walk_at "my wp"; walk_at "my wpF"
      walk_at "my wp"; walk_at "my wpF"
      walk_at "my wp"
      refine ⟨fun hz => ?_, fun hz => ?_⟩
      · rw [if_pos (by simpa using hz)]
        walk_at "my wp"; exact retOf_pure (pure_ans .known)
      · rw [if_neg (by simpa using hz)]
        walk_at "my wp"; exact retOf_pure (pure_ans .clash)
theorem opEq_ans (s : S) (a : Ans) : opEq s a.V (.str "new") = some (.bl (decide (a = .new))) := by
  cases a with
  | new => show some (Val.bl _) = _; congr 2
  | known => show some (Val.bl _) = _; congr 2 <;> decide +kernel
  | clash => show some (Val.bl _) = _; congr 2 <;> decide +kernel
  | opn => show some (Val.bl _) = _; congr 2 <;> decide +kernel
  | num k => simp [Ans.V, opEq, res, FM.pure, show PyData.strOk (Str.ofString "new") = true by decide +kernel, shallow, toD, PyData.depth, veq, PyData.eqv]
  | non => simp [Ans.V, opEq, res, FM.pure, show PyData.strOk (Str.ofString "new") = true by decide +kernel, shallow, toD, PyData.depth, veq, PyData.eqv]
/-- answers that fit their deeds -/
def FitL (p : Int) (ds : List Deed) (as : List Ans) : Prop := as.length = ds.length ∧ ∀ q ∈ ds.zip as, AnsOk p q.2 ∧ Ans.Fits q.1 q.2
theorem FitL.snoc {p : Int} {ds : List Deed} {as : List Ans} (h : FitL p ds as) {d : Deed} {a : Ans} (h1 : AnsOk p a) (h2 : Ans.Fits d a) : FitL p (ds ++ [d]) (as ++ [a]) := by
  refine ⟨by simp [h.1], fun q hq => ?_⟩
  rw [List.zip_append h.1.symm] at hq
  rcases List.mem_append.mp hq with hq | hq
  · exact h.2 q hq
  · simp at hq; subst hq; exact ⟨h1, h2⟩
theorem FitL.at {p : Int} {ds : List Deed} {as : List Ans} (h : FitL p ds as) {i : Nat} {d : Deed} {a : Ans} (hd : ds[i]? = some d) (ha : as[i]? = some a) : AnsOk p a ∧ Ans.Fits d a := by
  refine h.2 (d, a) (List.mem_of_getElem? (i := i) ?_)
  rw [List.getElem?_zip_eq_some]
  exact ⟨hd, ha⟩
theorem answers_run (N : Nat) {p : Int} (hp : Pr p) {n : Nat} (hn : n < 100) {s : S} {X : Val} {ds : List Deed} (hX : asQ s X = some (ds.map Deed.V)) (hm : ds.length < 300) (hd : ∀ d ∈ ds, DeedOk p n d) :
    ∃ as : List Ans, m_law_answers_by N [hv p n, X] s = .ok (.cell (.lst (as.map Ans.V))) s ∧ FitL p ds as := by
  have key : WE (m_law_answers_by N [hv p n, X] s) fun r s1 => s1 = s ∧ ∃ as : List Ans, r = .cell (.lst (as.map Ans.V)) ∧ FitL p ds as := by
    refine mk_we rfl ?_
    unfold b_law_answers_by
    walk_at "my wp0"; walk_at "my wp"
    refine ⟨_, asQ_push hX, ?_⟩
    refine ws_forL (fun xs ρ s1 => ∃ (done rest : List Deed) (R : List (List Int × Int)) (as : List Ans) (x y : Option Val), ds = done ++ rest ∧ xs = rest.map Deed.V ∧ ρ = [some (hv p n), some X, some (.ref s.length 0), some (.ref s.length 1), x, y] ∧ s1 = [.lst (R.map rv), .lst (as.map Ans.V)] :: s ∧ Ind p n R ∧ R.length ≤ done.length ∧ FitL p done as) ?_ ?_ _ _ _ ⟨[], ds, [], [], none, none, rfl, rfl, rfl, rfl, ind_nil p n, Nat.le_refl _, rfl, by simp⟩
    · rintro v xs ρ s1 ⟨done, rest, R, as, x, y, e1, e2, rfl, rfl, ind, hl, fit⟩
      cases rest with
      | nil => cases e2
      | cons d rest =>
        injection e2 with e3 e4
        subst e3; subst e4
        have hdl : done.length < 300 := by rw [e1] at hm; simp at hm; omega
        have hdd : DeedOk p n d := hd d (by rw [e1]; simp)
        obtain ⟨a, er, ha, hf, hi⟩ := answer_run N hp hn (s := [.lst (R.map rv), .lst (as.map Ans.V)] :: s) (X := .ref s.length 0) (R := R) (asQ_top rfl rfl) ind (by omega) hdd
        refine ⟨still_of (asQ_push hX), ?_⟩
        unfold l1_law_answers_by
        walk_at "my wp"
        refine we_of er ?_
        walk_at "my wp"
        refine opt_of (opEq_ans _ _) ?_
        walk_at "my wp"
        have asl : (as.map Ans.V).length < 100000 := by rw [List.length_map, fit.1]; omega
        refine ⟨fun ha2 => ?_, fun ha2 => ?_⟩
        · have ha2 : a = .new := by simpa using ha2
          subst ha2
          cases d with
          | ask v => exact hf.elim
          | tell v k =>
            walk_at "my wp"
            refine we_append rfl rfl rfl (by rw [List.length_map]; omega) ?_
            walk_at "my wp"
            refine ⟨by trivial, ?_⟩
            walk_at "my wp"
            refine we_append rfl rfl rfl asl ?_
            walk_at "my wp"
            refine ⟨by trivial, ?_⟩
            walk_at "my wp"
            exact ⟨done ++ [.tell v k], rest, R ++ [(v, k)], as ++ [.new], _, _, by rw [e1, List.append_assoc]; rfl, rfl, rfl, by rw [List.map_append, List.map_append]; rfl, hi rfl, by simp; omega, fit.snoc ha hf⟩
        · walk_at "my wp"
          refine we_append rfl rfl rfl asl ?_
          walk_at "my wp"
          refine ⟨by trivial, ?_⟩
          walk_at "my wp"
          exact ⟨done ++ [d], rest, R, as ++ [a], _, _, by rw [e1, List.append_assoc]; rfl, rfl, rfl, by rw [List.map_append]; rfl, ind, by simp; omega, fit.snoc ha hf⟩
    · rintro ρ s1 ⟨done, rest, R, as, x, y, e1, e2, rfl, rfl, ind, hl, fit⟩
      cases rest with
      | cons d rest => cases e2
      | nil =>
        refine ⟨still_of (asQ_push hX), ?_⟩
        walk_at "my wp"
        refine ⟨_, _, rfl, _, retOf_cell (n := 1) rfl (pureAll_map _ pure_ans _), rfl, as, rfl, ?_⟩
        rw [e1, List.append_nil]; exact fit
  obtain ⟨_, _, e, rfl, as, rfl, f⟩ := key
  exact ⟨as, e, f⟩
theorem deed_d (N : Nat) {p : Int} (hp : Pr p) {n : Nat} {s : S} (h : HB s) {X : Val} (hX : X ≠ .ref 0 0) {vs : List (List Int)} (e : asQ s X = some (vs.map tv)) (h0 : vs ≠ []) (hl : vs.length < 1000) (hvs : ∀ v ∈ vs, SumOk p n v) {w : List Int} :
    DrawF (m_law_deed N) [.ref 0 0, hv p n, X, tv w] s (GV fun v => ∃ d : Deed, v = d.V ∧ DeedOk p n d) := by
  have hp2 := hp.pos
  refine mk_draw rfl h fun sb0 => ?_
  unfold b_law_deed
  walk_at "my wp0"; walk_at "my wp"
  refine we_draw sb0 (one_d N (h.push _) hX (asQ_push e) (pureAll_map _ pure_tv _) (by simpa using h0) (by simpa using hl)) ?_
  rintro _ s1 sb1 ⟨_, rfl, hx⟩
  obtain ⟨v, hv1, rfl⟩ := List.mem_map.mp hx
  have hvo := hvs v hv1
  walk_at "my wp"
  refine we_draw sb1 (take_d N (sb1.hb.push _) (by decide) (by decide)) ?_
  rintro _ s2 sb2 ⟨_, rfl, i, rfl, i0, i1⟩
  walk_at "my wp"
  refine ⟨fun _ => ?_, fun _ => ?_⟩
  · walk_at "my wp"
    exact draw_end sb2 (pure_deed (.ask v)) ⟨.ask v, rfl, hvo.1, hvo.2, Int.le_refl _, by show (0 : Int) < p; omega⟩
  · walk_at "my wp"
    refine we_of (comesL_run N hp n (W := tv w) hvo.2 rfl) ?_
    walk_at "my wp"
    refine we_draw sb2 (take_d N (sb2.hb.push _) (by decide) (by decide)) ?_
    rintro _ s3 sb3 ⟨_, rfl, j, rfl, j0, j1⟩
    walk_at "my wp"
    refine ⟨fun _ => ?_, fun _ => ?_⟩
    · walk_at "my wp"
      refine we_draw sb3 (take_d N (sb3.hb.push _) (by omega) (by omega)) ?_
      rintro _ s4 sb4 ⟨_, rfl, k, rfl, k0, k1⟩
      walk_at "my wp"
      exact draw_end sb4 (pure_deed (.tell v k)) ⟨.tell v k, rfl, hvo.1, hvo.2, k0, k1⟩
    · walk_at "my wp"
      exact draw_end sb3 (pure_deed (.tell v _)) ⟨.tell v _, rfl, hvo.1, hvo.2, Int.emod_nonneg _ (by omega), Int.emod_lt_of_pos _ (by omega)⟩
theorem stretch_d (N : Nat) {s : S} (h : HB s) {m w : Int} : DrawF (m_law_stretch N) [.ref 0 0, .int m, .int w] s (GV fun v => ∃ (b : Int) (e : Option Int), v = .tup [.int b, oi e] ∧ m - 300 ≤ b ∧ b ≤ m ∧ ∀ x, e = some x → m ≤ x ∧ x ≤ m + 300) := by
  refine mk_draw rfl h fun sb0 => ?_
  unfold b_law_stretch
  walk_at "my wp0"; walk_at "my wp"
  refine we_draw sb0 (one_i N (h.push _) [0, 1, 4, 5] rfl (by simp) (by simp) 0 5 (by decide)) ?_
  rintro _ s1 sb1 ⟨_, rfl, k, rfl, k0, k1⟩
  walk_at "my wp"
  refine ⟨fun _ => ?_, fun _ => ?_⟩
  · walk_at "my wp"
    refine we_draw sb1 (one_i N (sb1.hb.push _) [0, 1, 4, 5] rfl (by simp) (by simp) 0 5 (by decide)) ?_
    rintro _ s2 sb2 ⟨_, rfl, k2, rfl, k20, k21⟩
    walk_at "my wp"
    exact draw_end sb2 rfl ⟨_, some _, rfl, by omega, by omega, fun x hx => by cases hx; omega⟩
  · walk_at "my wp"
    refine ⟨fun _ => ?_, fun _ => ?_⟩
    · walk_at "my wp"
      refine we_draw sb1 (one_i N (sb1.hb.push _) [5, 5, 4] rfl (by simp) (by simp) 0 5 (by decide)) ?_
      rintro _ s2 sb2 ⟨_, rfl, k2, rfl, k20, k21⟩
      walk_at "my wp"
      exact draw_end sb2 rfl ⟨_, some _, rfl, by omega, by omega, fun x hx => by cases hx; omega⟩
    · walk_at "my wp"
      refine we_draw sb1 (one_i N (sb1.hb.push _) [9, 15, 30, 10, 20, 300] rfl (by simp) (by simp) 0 300 (by decide)) ?_
      rintro _ s2 sb2 ⟨_, rfl, l, rfl, l0, l1⟩
      walk_at "my wp"
      refine ⟨fun _ => ?_, fun _ => ?_⟩
      · walk_at "my wp"
        refine we_draw sb2 (one_i N (sb2.hb.push _) [9, 15, 10, 60, 300] rfl (by simp) (by simp) 0 300 (by decide)) ?_
        rintro _ s3 sb3 ⟨_, rfl, k2, rfl, k20, k21⟩
        walk_at "my wp"
        exact draw_end sb3 rfl ⟨_, some _, rfl, by omega, by omega, fun x hx => by cases hx; omega⟩
      · walk_at "my wp"
        refine we_draw sb2 (one_i N (sb2.hb.push _) [k, l] rfl (by simp) (by simp) 0 300 (by intro x hx; simp at hx; omega)) ?_
        rintro _ s3 sb3 ⟨_, rfl, k2, rfl, k20, k21⟩
        walk_at "my wp"
        refine we_draw sb3 (one_d N (sb3.hb.push _) (X := .lst [.int (m + l), .int (m + k), .int (m + 15), .non]) (fun z => by cases z) rfl rfl (by simp) (by simp)) ?_
        rintro _ s4 sb4 ⟨_, rfl, hx⟩
        simp only [List.mem_cons, List.not_mem_nil, or_false] at hx
        rcases hx with rfl | rfl | rfl | rfl
        · walk_at "my wp"; exact draw_end sb4 rfl ⟨_, some _, rfl, by omega, by omega, fun x hx => by cases hx; omega⟩
        · walk_at "my wp"; exact draw_end sb4 rfl ⟨_, some _, rfl, by omega, by omega, fun x hx => by cases hx; omega⟩
        · walk_at "my wp"; exact draw_end sb4 rfl ⟨_, some _, rfl, by omega, by omega, fun x hx => by cases hx; omega⟩
        · walk_at "my wp"; exact draw_end sb4 rfl ⟨_, none, rfl, by omega, by omega, fun x hx => by cases hx⟩
end FT

set_option maxHeartbeats 4000000
set_option autoImplicit false
/-! histories and plans are drawn -/
namespace FT
open PySem PySem.Spec PyProof.Rows L2 FM LN
local instance : Tbl := ⟨[]⟩
theorem world_d (N : Nat) {p : Int} (hp : Pr p) {n : Nat} (hn : n < 1000) {s : S} (h : HB s) : DrawF (m_law_world N) [.ref 0 0, hv p n] s (GV fun v => ∃ w, v = tv w ∧ SumOk p n w) := by
  obtain ⟨w, b, o, g, r⟩ := world_run0 N hp hn h
  exact ⟨_, b, o, ⟨_, rfl, w, rfl, g⟩, r⟩
theorem sums_d (N : Nat) {p : Int} (hp : Pr p) {n : Nat} (hn : n < 1000) {s : S} (h : HB s) {many : Int} (h1 : 1 ≤ many) (h2 : many < 100) : DrawF (m_law_sums N) [.ref 0 0, hv p n, .int many] s (fun r => ∃ vs : List (List Int), r = .cell (.lst (vs.map tv)) ∧ vs ≠ [] ∧ (∀ v ∈ vs, SumOk p n v) ∧ vs.length < 200) := by
  obtain ⟨vs, b, o, g1, g2, g3, r⟩ := sums_run N hp hn h h1 h2
  exact ⟨_, b, o, ⟨vs, rfl, g1, g2, g3⟩, r⟩
def ni (l : List Nat) : List Val := l.map fun (i : Nat) => .int (i : Int)
theorem pure_ni (l : List Nat) : pureAll (ni l) = true := pureAll_map _ (fun _ => rfl) l
theorem perm_map {α β : Type} (f : α → β) : ∀ {l1 l2 : List β}, l1.Perm l2 → ∀ m : List α, l2 = m.map f → ∃ l : List α, l1 = l.map f ∧ l.Perm m := by
  intro l1 l2 h
  induction h with
  | nil => intro m e; exact ⟨[], rfl, by cases m with | nil => exact .nil | cons a m => cases e⟩
  | cons x h ih =>
    intro m e
    cases m with
    | nil => cases e
    | cons a m =>
      injection e with e1 e2
      obtain ⟨l, e3, q⟩ := ih m e2
      exact ⟨a :: l, by rw [e3, e1]; rfl, q.cons a⟩
  | swap x y l =>
    intro m e
    cases m with
    | nil => cases e
    | cons a m =>
      cases m with
      | nil => cases e
      | cons b m =>
        injection e with e1 e2
        injection e2 with e2 e3
        exact ⟨b :: a :: m, by rw [e1, e2, e3]; rfl, .swap a b m⟩
  | trans h1 h2 ih1 ih2 =>
    intro m e
    obtain ⟨l, e1, q1⟩ := ih2 m e
    obtain ⟨l', e2, q2⟩ := ih1 l e1
    exact ⟨l', e2, q2.trans q1⟩
theorem mixed_d (N : Nat) {s : S} (h : HB s) {m : Nat} (hm : m < 1000) : DrawF (m_law_mixed N) [.ref 0 0, .lst (rangeV 0 m)] s (fun r => ∃ l : List Nat, r = .cell (.lst (ni l)) ∧ l.Perm (List.range m)) := by
  obtain ⟨ys, b, o, pm, r⟩ := mixed_run N h (X := .lst (rangeV 0 m)) (xs := ni (List.range m)) (fun z => by cases z) (by rw [rg0]; rfl) (pure_ni _) (by simpa [ni] using hm)
  obtain ⟨l, rfl, q⟩ := perm_map (fun (i : Nat) => Val.int (i : Int)) pm (List.range m) rfl
  exact ⟨_, b, o, ⟨l, rfl, q⟩, r⟩
theorem bIndex_ni {s : S} {l : List Nat} {k : Nat} (hk : k ∈ l) : bIndex s (.lst (ni l)) [.int k] = some (.int (l.idxOf k : Nat)) := by
  have e : intsOf (ni l) = some (l.map fun (i : Nat) => (i : Int)) := by
    have := intsOf_vi (l.map fun (i : Nat) => (i : Int))
    simpa [vi, ni, Function.comp_def] using this
  have ix : ∀ l : List Nat, (l.map fun (i : Nat) => (i : Int)).idxOf (k : Int) = l.idxOf k := fun l => by
    induction l with
    | nil => rfl
    | cons a l ih =>
      simp only [List.map_cons, List.idxOf_cons, ih]
      have : ((a : Int) == (k : Int)) = (a == k) := by
        by_cases h : a = k
        · subst h; simp
        · have : (a : Int) ≠ k := by omega
          rw [beq_eq_false_iff_ne.mpr h, beq_eq_false_iff_ne.mpr this]
      rw [this]
  simp only [bIndex, asL, Option.bind_some, e]
  rw [if_pos (List.mem_map.mpr ⟨k, hk, rfl⟩), ix]
theorem pure_t2 {a b : Val} (ha : FM.pure a = true) (hb : FM.pure b = true) : FM.pure (.tup [a, b]) = true := by simp [FM.pure, pureAll, ha, hb]
theorem what_end {p : Int} {n : Nat} {plan : Bool} {B : Int} {m : Nat} {cs : List CallT} (h : ∀ c ∈ cs, CallOk p n plan B c) (hl : cs.length ≤ m) : WhatOk p n plan B m cs := ⟨h, hl⟩
theorem all_snoc {α : Type} {P : α → Prop} {l : List α} (h : ∀ x ∈ l, P x) {y : α} (hy : P y) : ∀ x ∈ l ++ [y], P x := fun x hx => by
  rcases List.mem_append.mp hx with hx | hx
  · exact h x hx
  · rw [List.mem_singleton.mp hx]; exact hy
theorem history_d (N : Nat) {p : Int} (hp : Pr p) {n : Nat} (hn : n < 100) {s : S} (h : HB s) {most : Nat} (m1 : 1 ≤ most) (m2 : most < 100) :
    DrawF (m_law_history N) [.ref 0 0, hv p n, .int most] s (GV fun v => ∃ (cs : List CallT) (w : Val), v = .tup [whatV p n cs, w] ∧ WhatOk p n false (10 * most + 300) most cs) := by
  refine mk_draw rfl h fun sb0 => ?_
  unfold b_law_history
  walk_at "my wp0"; walk_at "my wp"
  refine we_draw sb0 (take_d N (h.push _) (by omega) (by omega)) ?_
  rintro _ s1 sb1 ⟨_, rfl, t, rfl, t0, t1⟩
  walk_at "my wp"
  refine we_draw sb1 (one_i N (sb1.hb.push _) [(most : Int), most, most - 1, most / 2, t] rfl (by simp) (by simp) 0 most (by intro x hx; simp at hx; omega)) ?_
  rintro _ s2 sb2 ⟨_, rfl, many, rfl, k0, k1⟩
  walk_at "my wp"
  refine we_draw sb2 (world_d N hp (by omega) (sb2.hb.push _)) ?_
  rintro _ s3 sb3 ⟨_, rfl, w, rfl, hw⟩
  walk_at "my wp"
  refine we_draw sb3 (one_i N (sb3.hb.push _) [2, 3, 4, 6] rfl (by simp) (by simp) 2 6 (by decide)) ?_
  rintro _ s4 sb4 ⟨_, rfl, q, rfl, q0, q1⟩
  walk_at "my wp"
  refine we_draw sb4 (sums_d N hp (by omega) (sb4.hb.push _) (by omega) (by omega)) ?_
  rintro _ s5 sb5 ⟨vs, rfl, v0, v1, v2⟩
  walk_at "my wp"
  refine ⟨by omega, by omega, ?_⟩
  obtain ⟨m, rfl⟩ := Int.eq_ofNat_of_zero_le k0
  rw [Int.toNat_natCast]
  refine we_compL (fun xs acc st => ∃ (js : List Nat) (ds : List Deed) (s' : S), xs = ni js ∧ acc = ds.map Deed.V ∧ st = [] :: s' ∧ SB s s' ∧ (∀ d ∈ ds, DeedOk p n d) ∧ ds.length + js.length = m) ?_ ?_ _ _ _ ⟨List.range m, [], s5, rg0 m, rfl, rfl, sb5, by simp, by simp⟩
  · rintro x xs acc st ⟨js, ds, s6, e1, rfl, rfl, sb6, hd, hl⟩
    cases js with
    | nil => cases e1
    | cons j js =>
      injection e1 with e1 e2
      subst e1; subst e2
      refine ⟨rfl, ?_⟩
      walk_at "my wp"; walk_at "my wpT"
      walk_at "my wp"
      refine we_draw sb6 (deed_d N hp (sb6.hb.push _) (X := .lst (vs.map tv)) (fun z => by cases z) rfl v0 (by omega) v1) ?_
      rintro _ s7 sb7 ⟨_, rfl, d, rfl, hdd⟩
      walk_at "my wp"
      exact ⟨js, ds ++ [d], s7, rfl, by rw [List.map_append]; rfl, rfl, sb7, all_snoc hd hdd, by simp at hl ⊢; omega⟩
  rintro acc st ⟨js, ds, s6, e1, rfl, rfl, sb6, hd, hl⟩
  cases js with
  | cons j js => cases e1
  | nil =>
  refine ⟨rfl, ?_⟩
  rw [List.length_nil, Nat.add_zero] at hl
  walk_at "my wp"
  obtain ⟨as, era, fit⟩ := answers_run N hp hn (s := [] :: s6) (X := .lst (ds.map Deed.V)) rfl (by omega) hd
  refine we_of era ?_
  walk_at "my wp"
  refine we_draw sb6 (one_i N (sb6.hb.push _) [2, 3, 3, 2, 1, 0] rfl (by simp) (by simp) 0 3 (by decide)) ?_
  rintro _ s7 sb7 ⟨_, rfl, way, rfl, y0, y1⟩
  walk_at "my wp"
  refine ⟨by omega, by omega, ?_⟩
  rw [Int.toNat_natCast]
  walk_at "my wp"
  refine we_draw sb7 (mixed_d N (sb7.hb.push _) (m := m) (by omega)) ?_
  rintro _ s8 sb8 ⟨pl, rfl, hpl⟩
  have hpm : ∀ i ∈ pl, i < m := fun i hi => List.mem_range.mp (hpl.mem_iff.mp hi)
  have hpn : pl.length = m := by rw [hpl.length_eq, List.length_range]
  walk_at "my wp"
  rw [sb8.len]
  refine ws_forL (fun xs ρ st => ∃ (js : List Nat) (cs : List CallT) (s' : S) (a b c : Option Val), xs = ni js ∧ ρ = [some (.ref 0 0), some (hv p n), some (.int most), some (.int m), some (tv w), some (.lst (vs.map tv)), some (.lst (ds.map Deed.V)), some (.lst (as.map Ans.V)), some (.int way), some (.lst (ni pl)), some (.ref s.length 0), a, b, c, none] ∧ st = [.lst (cs.map CallT.V)] :: s' ∧ SB s s' ∧ (∀ c ∈ cs, CallOk p n false (10 * most + 300) c) ∧ cs.length + js.length = m ∧ ∀ j ∈ js, j < m) ?_ ?_ _ _ _ ⟨pl, [], s8, none, none, none, rfl, rfl, rfl, sb8, by simp, by simpa using hpn, hpm⟩
  · rintro x xs ρ st ⟨js, cs, s9, a, b, c, e1, rfl, rfl, sb9, hc, hcl, hj⟩
    cases js with
    | nil => cases e1
    | cons j js =>
      injection e1 with e1 e2
      subst e1; subst e2
      refine ⟨rfl, ?_⟩
      have hjm := hj j List.mem_cons_self
      obtain ⟨d, hd1⟩ : ∃ d, ds[j]? = some d := ⟨_, List.getElem?_eq_getElem (by omega)⟩
      obtain ⟨an, ha1⟩ : ∃ d, as[j]? = some d := ⟨_, List.getElem?_eq_getElem (by rw [fit.1]; omega)⟩
      have fa := fit.at hd1 ha1
      have hdo := hd d (List.mem_of_getElem? hd1)
      unfold l1_law_history
      walk_at "my wq"
      refine WE.mono (Q := fun v st => ∃ (y : Int) (s' : S), v = .int y ∧ st = [.lst (cs.map CallT.V)] :: s' ∧ SB s s') (we_if ?_) ?_
      · walk_at "my wp"
        refine we_draw sb9 (take_d N (sb9.hb.push _) (by decide) (by decide)) ?_
        rintro _ s10 sb10 ⟨_, rfl, u, rfl, u0, u1⟩
        walk_at "my wp"
        refine ⟨fun _ => ?_, fun _ => ?_⟩
        · walk_at "my wp"; exact ⟨_, s10, rfl, rfl, sb10⟩
        · walk_at "my wp"
          refine we_draw sb10 (take_d N (sb10.hb.push _) (by decide) (by decide)) ?_
          rintro _ s11 sb11 ⟨_, rfl, u, rfl, u0, u1⟩
          walk_at "my wp"; exact ⟨_, s11, rfl, rfl, sb11⟩
      rintro _ _ ⟨y, s10, rfl, rfl, sb10⟩
      walk_at "my wp"
      refine we_draw sb10 (stretch_d N (sb10.hb.push _)) ?_
      rintro _ s11 sb11 ⟨_, rfl, bg, en, rfl, b0, b1, eb⟩
      walk_at "my wp"
      refine we_append sb11.len rfl rfl (by rw [List.length_map]; omega) ?_
      walk_at "my wp"
      refine optR_of (ix_map _ (X := .lst (ds.map Deed.V)) rfl hd1) ?_
      walk_at "my wp"
      refine optR_of (ix_map _ (X := .lst (as.map Ans.V)) rfl ha1) ?_
      walk_at "my wp"
      refine ⟨sb11.len, ?_⟩
      walk_at "my wp"
      refine ⟨js, cs ++ [⟨d, bg, en, some an⟩], s11, _, _, _, rfl, rfl, by rw [List.map_append]; rfl, sb11, all_snoc hc ⟨hdo, by show -_ ≤ bg ∧ bg ≤ _; omega, fun x hx => ?_, rfl, fun a ha => by cases ha; exact fa.1, fun a ha _ => by cases ha; exact fa.2, fun z => (by cases z), fun x hx => by have := eb x hx; show bg ≤ x; omega⟩, by simp at hcl ⊢; omega, fun i hi => hj i (List.mem_cons_of_mem _ hi)⟩
      have := eb x hx
      omega
  · rintro ρ st ⟨js, cs, s9, a, b, c, e1, rfl, rfl, sb9, hc, hcl, hj⟩
    cases js with
    | cons j js => cases e1
    | nil =>
    rw [List.length_nil, Nat.add_zero] at hcl
    refine ⟨rfl, ?_⟩
    walk_at "my wp"
    refine optR_of (asQ_top sb9.len rfl) ?_
    walk_at "my wp"
    refine ⟨by omega, by omega, ?_⟩
    rw [Int.toNat_natCast]
    refine we_pick (fun (i : Nat) => .int (i : Int)) (fun _ => true) (fun i => .int (pl.idxOf i : Nat)) (List.range m) (rg0 m) rfl (fun i hi => ?_) ?_
    · walk_at "my wp"
      refine ⟨by trivial, by trivial, fun _ => ?_⟩
      walk_at "my wp"
      refine ⟨rfl, ?_⟩
      walk_at "my wp"
      refine opt_of (bIndex_ni (hpl.mem_iff.mpr hi)) ?_
      exact ⟨by trivial, by trivial⟩
    walk_at "my wp"
    exact draw_end sb9 (pure_t2 (pure_what p n cs) (by unfold FM.pure; exact pureAll_map _ (fun _ => rfl) _)) ⟨cs, _, rfl, hc, by omega⟩
/-! ### one call put otherwise -/
theorem cutT_to {α : Type} (v : List α) {n : Nat} (hn : n ≤ v.length) : cutL v none (some (n : Int)) = v.take n := by
  unfold cutL FM.sIx
  simp only [List.drop_zero, Nat.sub_zero]
  rw [if_neg (by omega), Int.toNat_natCast, Nat.min_eq_left hn]
theorem cutT_from {α : Type} (v : List α) {n : Nat} (hn : n ≤ v.length) : cutL v (some (n : Int)) none = v.drop n := by
  unfold cutL FM.sIx
  dsimp only
  rw [if_neg (by omega), Int.toNat_natCast, Nat.min_eq_left hn, List.take_of_length_le (by simp)]
theorem put_run (N : Nat) {s : S} {cs : List CallT} {i : Nat} (hi : i < cs.length) (hl : cs.length < 1000) (c : CallT) : m_law_put N [.tup (cs.map CallT.V), .int i, c.V] s = .ok (.val (.tup ((cs.set i c).map CallT.V))) s := by
  refine mk_same rfl ?_
  unfold b_law_put
  walk_at "my wp0"; walk_at "my wp"
  have e1 : cutL (cs.map CallT.V) none (some (i : Int)) = (cs.map CallT.V).take i := cutT_to _ (by rw [List.length_map]; omega)
  have e2 : cutL (cs.map CallT.V) (some ((i : Int) + 1)) none = (cs.map CallT.V).drop (i + 1) := cutT_from (n := i + 1) _ (by rw [List.length_map]; omega)
  rw [e1]
  refine opt_addt (by simp; omega) ?_
  walk_at "my wp"
  rw [e2]
  refine opt_addt (by simp; omega) ?_
  have e3 : (cs.map CallT.V).take i ++ [c.V] ++ (cs.map CallT.V).drop (i + 1) = (cs.set i c).map CallT.V := by
    rw [List.map_set, List.set_eq_take_append_cons_drop, if_pos (by rw [List.length_map]; exact hi), List.append_assoc]; rfl
  rw [e3]
  walk_at "my wp"
  exact retOf_pure (by unfold FM.pure; exact pureAll_map _ pure_call _)
theorem all_set {α : Type} {P : α → Prop} {l : List α} (h : ∀ x ∈ l, P x) {y : α} (hy : P y) (i : Nat) : ∀ x ∈ l.set i y, P x := fun x hx => by
  rcases List.mem_or_eq_of_mem_set hx with hx | hx
  · exact h x hx
  · rw [hx]; exact hy
/-- at a drawn place -/
theorem at_ex {cs : List CallT} {i : Int} (h0 : 0 ≤ i) (h1 : i < cs.length) : ∃ (k : Nat) (c : CallT), i = (k : Int) ∧ k < cs.length ∧ cs[k]? = some c ∧ c ∈ cs := by
  obtain ⟨k, rfl⟩ := Int.eq_ofNat_of_zero_le h0
  have hk : k < cs.length := by omega
  exact ⟨k, cs[k], rfl, hk, List.getElem?_eq_getElem hk, List.getElem_mem hk⟩
theorem eq_nilT {s : S} {xs : List Val} (h : pureAll xs = true) : opEq s (.tup xs) (.tup []) = some (.bl xs.isEmpty) := by
  have h1 : FM.pure (.tup xs) = true := by unfold FM.pure; exact h
  have e : veq (.tup xs) (.tup []) = xs.isEmpty := by cases xs <;> simp [veq, toD, toDs, PyData.eqv, PyData.eqvAll]
  simp only [opEq, res_pure h1, res_pure (show FM.pure (.tup []) = true from rfl), e]
  rw [if_pos (by simp [shallow, toD, toDs, PyData.depth, PyData.depthAll])]
theorem ne_nilT {s : S} {xs : List Val} (h : pureAll xs = true) : opNe s (.tup xs) (.tup []) = some (.bl (!xs.isEmpty)) := by
  have h1 : FM.pure (.tup xs) = true := by unfold FM.pure; exact h
  have e : veq (.tup xs) (.tup []) = xs.isEmpty := by cases xs <;> simp [veq, toD, toDs, PyData.eqv, PyData.eqvAll]
  simp only [opNe, res_pure h1, res_pure (show FM.pure (.tup []) = true from rfl), e]
  rw [if_pos (by simp [shallow, toD, toDs, PyData.depth, PyData.depthAll])]
end FT

set_option maxHeartbeats 4000000
set_option autoImplicit false
/-! plans are drawn; histories bent, holed, moved -/
namespace FT
open PySem PySem.Spec PyProof.Rows L2 FM LN
local instance : Tbl := ⟨[]⟩
theorem plan_d (N : Nat) {p : Int} (hp : Pr p) {n : Nat} (hn : n < 100) {s : S} (h : HB s) {most : Nat} (m1 : 1 ≤ most) (m2 : most < 100) :
    DrawF (m_law_plan N) [.ref 0 0, hv p n, .int most] s (GV fun v => ∃ cs : List CallT, v = whatV p n cs ∧ WhatOk p n true (10 * most + 300) most cs) := by
  have hp2 := hp.pos
  refine mk_draw rfl h fun sb0 => ?_
  unfold b_law_plan
  walk_at "my wp0"; walk_at "my wp"
  refine we_draw sb0 (take_d N (h.push _) (by omega) (by omega)) ?_
  rintro _ s1 sb1 ⟨_, rfl, t, rfl, t0, t1⟩
  walk_at "my wp"
  refine we_draw sb1 (one_i N (sb1.hb.push _) [(most : Int), most - 1, most / 2, t] rfl (by simp) (by simp) 0 most (by intro x hx; simp at hx; omega)) ?_
  rintro _ s2 sb2 ⟨_, rfl, many, rfl, k0, k1⟩
  walk_at "my wp"
  refine we_draw sb2 (world_d N hp (by omega) (sb2.hb.push _)) ?_
  rintro _ s3 sb3 ⟨_, rfl, w, rfl, hw⟩
  walk_at "my wp"
  refine we_draw sb3 (one_i N (sb3.hb.push _) [2, 3, 4, 6] rfl (by simp) (by simp) 2 6 (by decide)) ?_
  rintro _ s4 sb4 ⟨_, rfl, q, rfl, q0, q1⟩
  walk_at "my wp"
  refine we_draw sb4 (sums_d N hp (by omega) (sb4.hb.push _) (by omega) (by omega)) ?_
  rintro _ s5 sb5 ⟨vs, rfl, v0, v1, v2⟩
  walk_at "my wp"
  obtain ⟨m, rfl⟩ := Int.eq_ofNat_of_zero_le k0
  refine we_draw sb5 (one_i N (sb5.hb.push _) [2, 3, 1, 0, 2] rfl (by simp) (by simp) 0 3 (by decide)) ?_
  rintro _ s7 sb7 ⟨_, rfl, way, rfl, y0, y1⟩
  walk_at "my wp"
  refine ⟨by omega, by omega, ?_⟩
  rw [Int.toNat_natCast]
  walk_at "my wp"
  refine we_draw sb7 (mixed_d N (sb7.hb.push _) (m := m) (by omega)) ?_
  rintro _ s8 sb8 ⟨pl, rfl, hpl⟩
  have hpm : ∀ i ∈ pl, i < m := fun i hi => List.mem_range.mp (hpl.mem_iff.mp hi)
  have hpn : pl.length = m := by rw [hpl.length_eq, List.length_range]
  walk_at "my wp"
  rw [sb5.len]
  refine ws_forL (fun xs ρ st => ∃ (js : List Nat) (cs : List CallT) (s' : S) (a b c d e : Option Val), xs = ni js ∧ ρ = [some (.ref 0 0), some (hv p n), some (.int most), some (.int m), some (tv w), some (.lst (vs.map tv)), some (.ref s.length 0), some (.int way), a, b, c, d, e] ∧ st = [.lst (cs.map CallT.V)] :: s' ∧ SB s s' ∧ (∀ c ∈ cs, CallOk p n true (10 * most + 300) c) ∧ cs.length + js.length = m ∧ ∀ j ∈ js, j < m) ?_ ?_ _ _ _ ⟨pl, [], s8, none, none, none, none, none, rfl, rfl, rfl, sb8, by simp, by simpa using hpn, hpm⟩
  · rintro x xs ρ st ⟨js, cs, s9, a, b, c, d, e, e1, rfl, rfl, sb9, hc, hcl, hj⟩
    cases js with
    | nil => cases e1
    | cons j js =>
      injection e1 with e1 e2
      subst e1; subst e2
      refine ⟨rfl, ?_⟩
      have hjm := hj j List.mem_cons_self
      unfold l1_law_plan
      walk_at "my wq"
      refine we_draw sb9 (one_d N (sb9.hb.push _) (X := .lst (vs.map tv)) (fun z => by cases z) rfl (pureAll_map _ pure_tv _) (by simpa using v0) (by simp; omega)) ?_
      rintro _ s10 sb10 ⟨_, rfl, hx⟩
      obtain ⟨v, hv1, rfl⟩ := List.mem_map.mp hx
      have hvo := v1 v hv1
      walk_at "my wq"
      refine WE.mono (Q := fun x st => ∃ (d : Deed) (s' : S), x = d.V ∧ DeedOk p n d ∧ st = [.lst (cs.map CallT.V)] :: s' ∧ SB s s') (we_if ?_) ?_
      · walk_at "my wp"
        refine we_draw sb10 (take_d N (sb10.hb.push _) (by decide) (by decide)) ?_
        rintro _ s11 sb11 ⟨_, rfl, u, rfl, u0, u1⟩
        walk_at "my wp"
        refine ⟨fun _ => ?_, fun _ => ?_⟩
        · walk_at "my wp"; exact ⟨.ask v, s11, rfl, ⟨hvo.1, hvo.2, Int.le_refl _, by show (0 : Int) < p; omega⟩, rfl, sb11⟩
        · walk_at "my wp"
          refine we_of (comesL_run N hp n (W := tv w) hvo.2 rfl) ?_
          walk_at "my wp"
          exact ⟨.tell v _, s11, rfl, ⟨hvo.1, hvo.2, Int.emod_nonneg _ (by omega), Int.emod_lt_of_pos _ (by omega)⟩, rfl, sb11⟩
      rintro _ _ ⟨d, s11, rfl, hdo, rfl, sb11⟩
      walk_at "my wq"
      refine we_draw sb11 (stretch_d N (sb11.hb.push _)) ?_
      rintro _ s12 sb12 ⟨_, rfl, bg, en, rfl, b0, b1, eb⟩
      walk_at "my wq"
      refine we_append sb12.len rfl rfl (by rw [List.length_map]; omega) ?_
      walk_at "my wq"
      refine WE.mono (Q := fun x st => ∃ e : Int, x = .int e ∧ st = [.lst (cs.map CallT.V)] :: s12 ∧ 10 * (j : Int) - 300 ≤ e ∧ e ≤ 10 * (j : Int) + 300 ∧ bg ≤ e) (we_if ?_) ?_
      · cases en with
        | none => walk_at "my wp"; walk_at "my wpT"; walk_at "my wp"; exact ⟨by trivial, by omega, by omega, by omega⟩
        | some e =>
          have := eb e rfl
          walk_at "my wp"; walk_at "my wpF"; walk_at "my wp"; exact ⟨by trivial, by omega, by omega, by omega⟩
      rintro _ _ ⟨en', rfl, rfl, en0, en1, en2⟩
      walk_at "my wp"
      refine ⟨sb12.len, ?_⟩
      walk_at "my wp"
      exact ⟨js, cs ++ [⟨d, bg, some en', none⟩], s12, _, _, _, _, _, rfl, rfl, by rw [List.map_append]; rfl, sb12, all_snoc hc ⟨hdo, by show -_ ≤ bg ∧ bg ≤ _; omega, fun x hx => by cases hx; omega, rfl, fun a ha => (by cases ha), fun a ha => (by cases ha), fun _ z => (by cases z), fun x hx => by cases hx; exact en2⟩, by simp at hcl ⊢; omega, fun i hi => hj i (List.mem_cons_of_mem _ hi)⟩
  · rintro ρ st ⟨js, cs, s9, a, b, c, d, e, e1, rfl, rfl, sb9, hc, hcl, hj⟩
    cases js with
    | cons j js => cases e1
    | nil =>
    rw [List.length_nil, Nat.add_zero] at hcl
    refine ⟨rfl, ?_⟩
    walk_at "my wp"
    refine optR_of (asQ_top sb9.len rfl) ?_
    walk_at "my wp"
    exact draw_end sb9 (pure_what p n cs) ⟨cs, rfl, hc, by omega⟩
/-! ### other answers -/
theorem opEq_anss (s : S) (a b : Ans) : opEq s a.V b.V = some (.bl (decide (a = b))) := by
  have k1 : PyData.strOk (Str.ofString "new") = true := by decide +kernel
  have k2 : PyData.strOk (Str.ofString "known") = true := by decide +kernel
  have k3 : PyData.strOk (Str.ofString "clash") = true := by decide +kernel
  have k4 : PyData.strOk (Str.ofString "open") = true := by decide +kernel
  cases a <;> cases b <;> first
    | (show some (Val.bl (decide _)) = _; congr 2 <;> decide +kernel)
    | (simp [Ans.V, opEq, res, FM.pure, k1, k2, k3, k4, shallow, toD, PyData.depth, veq, PyData.eqv]; done)
    | (simp only [Ans.V, opEq_int]; congr 2; simp)
theorem repr_ans {p : Int} (hp : Pr p) {a : Ans} (h : AnsOk p a) : ∃ z, ∀ s, bRepr s [a.V] = some (.str z) := by
  have hp2 := hp.pos
  have ok : OkV 10 0 a.V := by
    cases a with
    | num k => exact (okV_int h.1 (by have := h.2; omega) 0).mono (by decide) (by decide)
    | non => exact (okV_non 0).mono (by decide) (by decide)
    | new => exact ⟨pure_ans .new, by decide +kernel, by decide +kernel, by decide +kernel, by decide +kernel⟩
    | known => exact ⟨pure_ans .known, by decide +kernel, by decide +kernel, by decide +kernel, by decide +kernel⟩
    | clash => exact ⟨pure_ans .clash, by decide +kernel, by decide +kernel, by decide +kernel, by decide +kernel⟩
    | opn => exact ⟨pure_ans .opn, by decide +kernel, by decide +kernel, by decide +kernel, by decide +kernel⟩
  exact ⟨_, fun s => repr_ok ok.pur ok.shw (ok.fits (by decide)) (by have := ok.dep; omega) s⟩
theorem alike_ans (N : Nat) {s : S} {p : Int} (hp : Pr p) {a b : Ans} (h : AnsOk p a) : m_law_alike N [a.V, b.V] s = .ok (.val (.bl (decide (a = b)))) s := by
  refine mk_same rfl ?_
  unfold b_law_alike
  walk_at "my wp0"; walk_at "my wp"
  refine opt_of (opEq_anss _ _ _) ?_
  walk_at "my wp"
  obtain ⟨z, hz⟩ := repr_ans hp h
  refine ⟨fun e => ?_, fun e => ?_⟩
  · have e : a = b := by simpa using e
    subst e
    walk_at "my wp"
    refine opt_of (hz _) ?_
    walk_at "my wp"
    refine opt_of (hz _) ?_
    walk_at "my wp"
    exact retOf_pure rfl
  · rw [e]
    exact ⟨_, rfl, retOf_pure rfl⟩
theorem other_d (N : Nat) {p : Int} (hp : Pr p) {n : Nat} {s : S} (h : HB s) {d : Deed} {b : Int} {e : Option Int} {a : Ans} (ha : AnsOk p a) :
    DrawF (m_law_other_answer N) [.ref 0 0, hv p n, CallT.V ⟨d, b, e, some a⟩] s (GV fun v => ∃ a' : Ans, v = a'.V ∧ AnsOk p a' ∧ Ans.Fits d a') := by
  have hp2 := hp.pos
  refine mk_draw rfl h fun sb0 => ?_
  unfold b_law_other_answer
  walk_at "my wp0"; walk_at "my wq"
  refine WE.mono (Q := fun v st => ∃ ms : List Ans, v = .lst (ms.map Ans.V) ∧ st = [] :: s ∧ (∀ x ∈ ms, AnsOk p x ∧ Ans.Fits d x) ∧ (∃ x ∈ ms, ∃ y ∈ ms, x ≠ y) ∧ ms.length < 100) (we_if ?_) ?_
  · cases d with
    | tell v k =>
      walk_at "my wp"; walk_at "my wpT"
      walk_at "my wp"
      exact ⟨[.new, .known, .clash], rfl, by trivial, by intro x hx; simp at hx; rcases hx with rfl | rfl | rfl <;> exact ⟨trivial, trivial⟩, ⟨.new, by simp, .known, by simp, fun z => by cases z⟩, by simp⟩
    | ask v =>
      walk_at "my wp"; walk_at "my wpF"
      walk_at "my wp"
      refine ⟨by omega, by omega, ?_⟩
      walk_at "my wp"
      refine ⟨by simp [rg0]; omega, ?_⟩
      refine ⟨.opn :: (List.range p.toNat).map fun (i : Nat) => Ans.num (i : Int), ?_, by trivial, ?_, ⟨.opn, by simp, .num 0, ?_, fun z => by cases z⟩, by simp; omega⟩
      · rw [rg0]; simp [Ans.V, Function.comp_def]
      · intro x hx
        rcases List.mem_cons.mp hx with rfl | hx
        · exact ⟨trivial, trivial⟩
        · obtain ⟨i, hi, rfl⟩ := List.mem_map.mp hx
          have := List.mem_range.mp hi
          exact ⟨⟨by omega, by omega⟩, trivial⟩
      · exact List.mem_cons_of_mem _ (List.mem_map.mpr ⟨0, List.mem_range.mpr (by omega), rfl⟩)
  rintro _ _ ⟨ms, rfl, rfl, hms, ⟨x, hx, y, hy, hxy⟩, hml⟩
  walk_at "my wp"
  refine we_pick Ans.V (fun x => !decide (x = a)) Ans.V ms rfl rfl (fun m hm => ?_) ?_
  · walk_at "my wp"
    refine we_of (alike_ans N hp (hms m hm).1) ?_
    walk_at "my wp"
    refine ⟨by trivial, by trivial, fun _ => ?_⟩
    walk_at "my wp"
    exact ⟨by trivial, by trivial⟩
  have sub : ∀ m ∈ ms.filter (fun x => !decide (x = a)), m ∈ ms := fun m hm => (List.mem_filter.mp hm).1
  have ne : ms.filter (fun x => !decide (x = a)) ≠ [] := by
    intro z
    have h1 : ∀ m ∈ ms, m = a := fun m hm => by
      apply Decidable.byContradiction
      intro q
      have : m ∈ ms.filter (fun x => !decide (x = a)) := List.mem_filter.mpr ⟨hm, by simp [q]⟩
      rw [z] at this; cases this
    exact hxy ((h1 x hx).trans (h1 y hy).symm)
  have len := List.length_filter_le (fun x => !decide (x = a)) ms
  generalize ms.filter (fun x => !decide (x = a)) = fs at *
  walk_at "my wp"
  refine we_draw sb0 (one_d N (h.push _) (X := .lst (fs.map Ans.V)) (fun z => by cases z) rfl (pureAll_map _ pure_ans _) (by simpa using ne) (by simp; omega)) ?_
  rintro _ s1 sb1 ⟨_, rfl, hv1⟩
  obtain ⟨a', ha', rfl⟩ := List.mem_map.mp hv1
  have := hms a' (sub a' ha')
  exact draw_end sb1 (pure_ans a') ⟨a', rfl, this.1, this.2⟩
end FT

set_option maxHeartbeats 4000000
set_option autoImplicit false
/-! histories bent, holed, moved -/
namespace FT
open PySem PySem.Spec PyProof.Rows L2 FM LN
local instance : Tbl := ⟨[]⟩
theorem isEmpty_map {α β : Type} (f : α → β) (l : List α) : (l.map f).isEmpty = l.isEmpty := by cases l <;> rfl
theorem bent_d (N : Nat) {p : Int} (hp : Pr p) {n : Nat} {s : S} (h : HB s) {B : Int} {m : Nat} (hB : 0 ≤ B) (hm : m < 200) {cs : List CallT} (ok : WhatOk p n false B m cs) :
    DrawF (m_law_bent_history N) [.ref 0 0, whatV p n cs] s (GV fun v => ∃ cs' : List CallT, v = whatV p n cs' ∧ WhatOk p n false (B + 30) m cs') := by
  have hl := ok.2
  refine mk_draw rfl h fun sb0 => ?_
  unfold b_law_bent_history
  walk_at "my wp0"; walk_at "my wp"
  refine opt_of (eq_nilT (pureAll_map _ pure_call _)) ?_
  walk_at "my wp"
  rw [isEmpty_map]
  refine ⟨fun he => ?_, fun he => ?_⟩
  · walk_at "my wp"
    exact draw_end sb0 (pure_what p n cs) ⟨cs, rfl, ok.mono (by omega)⟩
  have hne : 0 < cs.length := by
    cases cs with
    | nil => cases he
    | cons c cs => simp
  walk_at "my wp"
  refine we_draw sb0 (take_d N (h.push _) (by rw [List.length_map]; omega) (by rw [List.length_map]; omega)) ?_
  rintro _ s1 sb1 ⟨_, rfl, i, rfl, i0, i1⟩
  rw [List.length_map] at i1
  obtain ⟨k, c, rfl, hk, hkc, hc⟩ := at_ex i0 i1
  have okc := ok.1 c hc
  obtain ⟨d, b, e, ao⟩ := c
  cases ao with
  | none => exact absurd okc.ans (by simp)
  | some a =>
  walk_at "my wp"
  refine optR_of (ix_map _ (X := .tup (cs.map CallT.V)) rfl hkc) ?_
  walk_at "my wp"
  refine we_draw sb1 (take_d N (sb1.hb.push _) (by decide) (by decide)) ?_
  rintro _ s2 sb2 ⟨_, rfl, u, rfl, u0, u1⟩
  walk_at "my wp"
  refine ⟨fun _ => ?_, fun _ => ?_⟩
  · walk_at "my wp"
    refine optR_of (ix_map _ (X := .tup (cs.map CallT.V)) rfl hkc) ?_
    walk_at "my wp"
    refine we_draw sb2 (other_d N hp (sb2.hb.push _) (okc.ansOk a rfl)) ?_
    rintro _ s3 sb3 ⟨_, rfl, a', rfl, ha', hf'⟩
    walk_at "my wp"
    refine we_of (put_run N hk (by omega) ⟨d, b, e, some a'⟩) ?_
    walk_at "my wp"
    exact draw_end sb3 (pure_what p n _) ⟨_, rfl, all_set (P := CallOk p n false (B + 30)) (y := ⟨d, b, e, some a'⟩) (fun c hc => (ok.1 c hc).mono (by omega)) ⟨okc.deed, by have := okc.beg; show -_ ≤ b ∧ b ≤ _; simp only at this; omega, fun x hx => by have := okc.fin x hx; omega, rfl, fun x hx => by cases hx; exact ha', fun x hx _ => by cases hx; exact hf', okc.pfin, okc.ord⟩ k, by rw [List.length_set]; exact hl⟩
  · walk_at "my wp"
    refine we_draw sb2 (one_d N (sb2.hb.push _) (X := .tup (cs.map CallT.V)) (fun z => by cases z) rfl (pureAll_map _ pure_call _) (by intro z; rw [List.map_eq_nil_iff] at z; rw [z] at hne; simp at hne) (by simp; omega)) ?_
    rintro _ s3 sb3 ⟨_, rfl, hv1⟩
    obtain ⟨c2, hc2, rfl⟩ := List.mem_map.mp hv1
    have okc2 := ok.1 c2 hc2
    obtain ⟨d2, b2, e2, ao2⟩ := c2
    cases ao2 with
    | none => exact absurd okc2.ans (by simp)
    | some a2 =>
    walk_at "my wp"
    refine we_draw sb3 (one_i N (sb3.hb.push _) [1, 0, 5, 11, -1] rfl (by simp) (by simp) (-1) 11 (by decide)) ?_
    rintro _ s4 sb4 ⟨_, rfl, x, rfl, x0, x1⟩
    walk_at "my wp"
    refine we_draw sb4 (one_i N (sb4.hb.push _) [0, 1, 8] rfl (by simp) (by simp) 0 8 (by decide)) ?_
    rintro _ s5 sb5 ⟨_, rfl, y, rfl, y0, y1⟩
    walk_at "my wp"
    refine we_of (put_run N hk (by omega) ⟨d, b2 + x, some (b2 + x + y), some a⟩) ?_
    walk_at "my wp"
    have bb := okc2.beg
    simp only at bb
    exact draw_end sb5 (pure_what p n _) ⟨_, rfl, all_set (P := CallOk p n false (B + 30)) (y := ⟨d, b2 + x, some (b2 + x + y), some a⟩) (fun c hc => (ok.1 c hc).mono (by omega)) ⟨okc.deed, by show -_ ≤ b2 + x ∧ b2 + x ≤ _; omega, fun z hz => by cases hz; omega, rfl, okc.ansOk, okc.fits, fun z => (by cases z), fun z hz => by cases hz; show b2 + x ≤ _; omega⟩ k, by rw [List.length_set]; exact hl⟩
theorem some_d (N : Nat) {p : Int} (hp : Pr p) {n : Nat} (hn : n < 100) {s : S} (h : HB s) {most : Nat} (m1 : 1 ≤ most) (m2 : most < 100) :
    DrawF (m_law_some_history N) [.ref 0 0, hv p n, .int most] s (GV fun v => ∃ cs : List CallT, v = whatV p n cs ∧ WhatOk p n false (10 * most + 360) most cs) := by
  refine mk_draw rfl h fun sb0 => ?_
  unfold b_law_some_history
  walk_at "my wp0"; walk_at "my wp"
  refine we_draw sb0 (history_d N hp hn (h.push _) m1 m2) ?_
  rintro _ s1 sb1 ⟨_, rfl, cs, w, rfl, ok⟩
  walk_at "my wp"
  refine we_draw sb1 (one_i N (sb1.hb.push _) [0, 1, 0, 1, 2] rfl (by simp) (by simp) 0 2 (by decide)) ?_
  rintro _ s2 sb2 ⟨_, rfl, x, rfl, x0, x1⟩
  walk_at "my wp"
  refine ⟨by omega, by omega, ?_⟩
  refine ws_forL (fun xs ρ st => ∃ (cs : List CallT) (s' : S) (a : Option Val), ρ = [some (.ref 0 0), some (hv p n), some (.int most), some (whatV p n cs), a] ∧ st = [] :: s' ∧ SB s s' ∧ xs.length ≤ 2 ∧ WhatOk p n false (10 * most + 300 + 30 * (2 - (xs.length : Int))) most cs) ?_ ?_ _ _ _ ⟨cs, s2, none, rfl, rfl, sb2, by simp [rg0]; omega, ok.mono (by simp [rg0]; omega)⟩
  · rintro x xs ρ st ⟨cs, s3, a, rfl, rfl, sb3, hx, ok⟩
    refine ⟨rfl, ?_⟩
    unfold l1_law_some_history
    walk_at "my wp"
    refine we_draw sb3 (bent_d N hp (sb3.hb.push _) (by simp at hx ⊢; omega) (by omega) ok) ?_
    rintro _ s4 sb4 ⟨_, rfl, cs', rfl, ok'⟩
    walk_at "my wp"
    simp only [List.length_cons] at hx
    exact ⟨cs', s4, _, rfl, rfl, sb4, by omega, ok'.mono (by simp; omega)⟩
  · rintro ρ st ⟨cs, s3, a, rfl, rfl, sb3, hx, ok⟩
    refine ⟨rfl, ?_⟩
    walk_at "my wp"
    exact draw_end sb3 (pure_what p n cs) ⟨cs, rfl, ok.mono (by simp; omega)⟩
end FT

set_option maxHeartbeats 4000000
set_option autoImplicit false
/-! moved as a whole -/
namespace FT
open PySem PySem.Spec PyProof.Rows L2 FM LN
local instance : Tbl := ⟨[]⟩
def CallT.by_ (c : CallT) (k : Int) : CallT := { c with beg := c.beg + k, fin := c.fin.map (· + k) }
theorem far_d (N : Nat) {p : Int} {n : Nat} {s : S} (h : HB s) {plan : Bool} {B : Int} {m : Nat} (hm : m < 200) {cs : List CallT} (ok : WhatOk p n plan B m cs) :
    DrawF (m_law_far N) [.ref 0 0, whatV p n cs] s (GV fun v => ∃ cs' : List CallT, v = whatV p n cs' ∧ WhatOk p n plan (B + 999999000) m cs') := by
  have hl := ok.2
  refine mk_draw rfl h fun sb0 => ?_
  unfold b_law_far
  walk_at "my wp0"; walk_at "my wp"
  refine we_draw sb0 (one_i N (h.push _) [0, 0, 0, 0, 999999000, -999999000] rfl (by simp) (by simp) (-999999000) 999999000 (by decide)) ?_
  rintro _ s1 sb1 ⟨_, rfl, k, rfl, k0, k1⟩
  walk_at "my wp"
  refine we_pick CallT.V (fun _ => true) (fun c => (c.by_ k).V) cs rfl rfl (fun c hc => ?_) ?_
  · obtain ⟨d, b, e, ao⟩ := c
    have ae : ao = none ∨ ∃ a, ao = some a := by cases ao <;> simp
    have tl : cutL (d.V :: .int b :: oi e :: CallT.tail ⟨d, b, e, ao⟩) (some 3) none = CallT.tail ⟨d, b, e, ao⟩ := cutT_from (n := 3) _ (by simp)
    walk_at "my wq"
    refine ⟨by trivial, by trivial, fun _ => ?_⟩
    walk_at "my wq"
    refine optR_of (ixc0 _ _) ?_
    walk_at "my wq"
    refine optR_of (ixc1 _ _) ?_
    walk_at "my wq"
    refine WE.mono (Q := fun v st => v = oi (e.map (· + k)) ∧ st = [] :: s1) (we_if ?_) ?_
    · walk_at "my wp"
      refine optR_of (ixc2 _ _) ?_
      cases e with
      | none => walk_at "my wp"; walk_at "my wpT"; walk_at "my wp"; exact ⟨by trivial, by trivial⟩
      | some e =>
        walk_at "my wp"; walk_at "my wpF"; walk_at "my wp"
        refine optR_of (ixc2 _ _) ?_
        walk_at "my wp"; exact ⟨by trivial, by trivial⟩
    rintro _ _ ⟨rfl, rfl⟩
    walk_at "my wp"
    rw [tl]
    refine opt_addt (by cases ao <;> simp [CallT.tail]) ?_
    walk_at "my wp"
    exact ⟨by trivial, by trivial⟩
  · rw [List.filter_eq_self.mpr (fun _ _ => rfl)]
    walk_at "my wp"
    have e2 : cs.map (fun c => (c.by_ k).V) = (cs.map fun c => c.by_ k).map CallT.V := by rw [List.map_map]; rfl
    rw [e2]
    refine draw_end sb1 (pure_what p n _) ⟨cs.map fun c => c.by_ k, rfl, fun c hc => ?_, by rw [List.length_map]; exact hl⟩
    obtain ⟨c, hc', rfl⟩ := List.mem_map.mp hc
    have okc := ok.1 c hc'
    refine ⟨okc.deed, by have := okc.beg; show _ ≤ c.beg + k ∧ c.beg + k ≤ _; omega, fun x hx => ?_, okc.ans, okc.ansOk, okc.fits, fun z => ?_, fun x hx => ?_⟩
    · obtain ⟨y, hy, rfl⟩ := Option.map_eq_some_iff.mp hx
      have := okc.fin y hy
      omega
    · intro q
      exact okc.pfin z (Option.map_eq_none_iff.mp q)
    · obtain ⟨y, hy, rfl⟩ := Option.map_eq_some_iff.mp hx
      have := okc.ord y hy
      show c.beg + k ≤ y + k
      omega
end FT

set_option maxHeartbeats 4000000
set_option autoImplicit false
/-! what can be shown: histories and plans; what is alike -/
namespace FT
open PySem PySem.Spec PyProof.Rows L2 FM LN
local instance : Tbl := ⟨[]⟩
theorem OkV.repr {b d : Nat} {v : Val} (h : OkV b d v) (hb : b ≤ 30000) (hd : d ≤ 64) (s : S) : bRepr s [v] = some (.str (toD v).shown) := repr_ok h.pur h.shw (h.fits hb) (by have := h.dep; omega) s
theorem OkV.alike (N : Nat) {s : S} {b d : Nat} {v : Val} (h : OkV b d v) (hb : b ≤ 30000) (hd : d ≤ 64) : m_law_alike N [v, v] s = .ok (.val (.bl true)) s :=
  alike_run N h.pur (by have := h.dep; omega) (FT.OkV.repr h hb hd)
theorem okV_ask : OkV 10 0 (.str "ask") := ⟨by decide +kernel, by decide +kernel, by decide +kernel, by decide +kernel, by decide +kernel⟩
theorem okV_tell : OkV 10 0 (.str "tell") := ⟨by decide +kernel, by decide +kernel, by decide +kernel, by decide +kernel, by decide +kernel⟩
theorem okV_small {p k : Int} (hp : Pr p) (h0 : 0 ≤ k) (h1 : k < p) (d : Nat) : OkV 0 d (.int k) := okV_int h0 (by have := hp.pos; omega) d
theorem inr7 {p : Int} (hp : Pr p) {v : List Int} (h : InR p v) : InR 7 v := fun x hx => ⟨(h x hx).1, by have := (h x hx).2; have := hp.pos; omega⟩
theorem okV_deed {p : Int} (hp : Pr p) {n : Nat} {d : Deed} (h : DeedOk p n d) : OkV (n + 40) 2 d.V := by
  cases d with
  | ask v =>
    have h1 : OkV n 1 (tv v) := by have := okV_tv (inr7 hp h.2.1); rwa [h.1] at this
    exact ((okV_ask.mono (Nat.le_refl _) (by decide)).cons (h1.cons (okA_nil 1))).tup.mono (by omega) (by omega)
  | tell v k =>
    have h1 : OkV n 1 (tv v) := by have := okV_tv (inr7 hp h.2.1); rwa [h.1] at this
    exact ((okV_tell.mono (Nat.le_refl _) (by decide)).cons (h1.cons ((okV_small hp h.2.2.1 h.2.2.2 1).cons (okA_nil 1)))).tup.mono (by omega) (by omega)
theorem okV_ans {p : Int} (hp : Pr p) {a : Ans} (h : AnsOk p a) : OkV 10 0 a.V := by
  cases a with
  | num k => exact (okV_small hp h.1 h.2 0).mono (by decide) (by decide)
  | non => exact (okV_non 0).mono (by decide) (by decide)
  | new => exact ⟨pure_ans .new, by decide +kernel, by decide +kernel, by decide +kernel, by decide +kernel⟩
  | known => exact ⟨pure_ans .known, by decide +kernel, by decide +kernel, by decide +kernel, by decide +kernel⟩
  | clash => exact ⟨pure_ans .clash, by decide +kernel, by decide +kernel, by decide +kernel, by decide +kernel⟩
  | opn => exact ⟨pure_ans .opn, by decide +kernel, by decide +kernel, by decide +kernel, by decide +kernel⟩
theorem okV_call {p : Int} (hp : Pr p) {n : Nat} {plan : Bool} {B : Int} (hB : B < 10000000000) {c : CallT} (h : CallOk p n plan B c) : OkV (n + 80) 3 c.V := by
  have h1 := okV_deed hp h.deed
  have h2 : OkV 0 2 (.int c.beg) := okV_intB (by have := h.beg; omega) 2
  have h3 : OkV 0 2 (oi c.fin) := by
    cases e : c.fin with
    | none => exact okV_non 2
    | some x => exact okV_intB (by have := h.fin x e; omega) 2
  have h4 : OkA 11 2 c.tail := by
    unfold CallT.tail
    cases e : c.ans with
    | none => exact (okA_nil 2).mono (by omega) (by omega)
    | some a => exact (((okV_ans hp (h.ansOk a e)).mono (Nat.le_refl _) (by omega : 0 ≤ 2)).cons (okA_nil 2)).mono (by omega) (by omega)
  exact (h1.cons (h2.cons (h3.cons h4))).tup.mono (by omega) (by omega)
theorem okV_what {p : Int} (hp : Pr p) {n : Nat} (hn : n < 100) {plan : Bool} {B : Int} (hB : B < 10000000000) {m : Nat} (hm : m ≤ 50) {cs : List CallT} (h : WhatOk p n plan B m cs) : OkV 20000 5 (whatV p n cs) := by
  have h1 : OkV 5 4 (hv p n) := by
    have := hp.pos
    exact ((okV_intB (i := p) (by omega) 3).cons ((okV_intB (i := (n : Int)) (by omega) 3).cons (okA_nil 3))).tup.mono (by omega) (by omega)
  have h2 : OkV 15000 4 (.tup (cs.map CallT.V)) := by
    refine (okA_map (b := n + 80) (d := 3) CallT.V cs fun c hc => okV_call hp hB (h.1 c hc)).tup.mono ?_ (by omega)
    have := h.2
    have h3 : (n + 80 + 1) * cs.length ≤ 181 * 50 := Nat.mul_le_mul (by omega) (by omega)
    omega
  exact (h1.cons (h2.cons (okA_nil 4))).tup.mono (by omega) (by omega)
theorem okV_ni {l : List Nat} {m : Nat} (h : ∀ i ∈ l, i < 10000) (hl : l.length ≤ m) : OkV m 1 (.tup (ni l)) ∧ OkV m 1 (.lst (ni l)) := by
  have := okA_map (b := 0) (d := 0) (fun (i : Nat) => Val.int (i : Int)) l fun i hi => okV_intB (by have := h i hi; omega) 0
  have := this.mono (b' := m) (d' := 0) (by omega) (Nat.le_refl _)
  exact ⟨this.tup, this.lst⟩
theorem okV_bls {l : List Bool} {m : Nat} (hl : l.length ≤ m) : OkV m 1 (.lst (l.map Val.bl)) :=
  ((okA_map (b := 0) (d := 0) Val.bl l fun b _ => okV_bl b 0).mono (b' := m) (d' := 0) (by omega) (Nat.le_refl _)).lst
end FT

set_option maxHeartbeats 4000000
set_option autoImplicit false
/-! who is ahead of whom; lots -/
namespace FT
open PySem PySem.Spec PyProof.Rows L2 FM LN
local instance : Tbl := ⟨[]⟩
def fz : Option Int → Int → Bool
  | none, _ => false
  | some e, b => decide (e < b)
/-- call i is ahead of call j -/
def ah (cs : List CallT) (i j : Nat) : Bool := match cs[i]?, cs[j]? with
  | some c, some d => fz c.fin d.beg
  | _, _ => false
theorem at_lt {cs : List CallT} {i : Nat} (h : i < cs.length) : ∃ c, cs[i]? = some c ∧ c ∈ cs := ⟨cs[i], List.getElem?_eq_getElem h, List.getElem_mem h⟩
theorem isahL_run (N : Nat) {s : S} {cs : List CallT} {i j : Nat} (hi : i < cs.length) (hj : j < cs.length) : m_law_is_ahead N [.tup (cs.map CallT.V), .int i, .int j] s = .ok (.val (.bl (ah cs i j))) s := by
  obtain ⟨c, hc, _⟩ := at_lt hi
  obtain ⟨d, hd, _⟩ := at_lt hj
  refine mk_same rfl ?_
  unfold b_law_is_ahead
  walk_at "my wp0"; walk_at "my wp"
  refine optR_of (ix_map _ (X := .tup (cs.map CallT.V)) rfl hc) ?_
  walk_at "my wp"
  refine optR_of (ixc2 _ _) ?_
  have e : ah cs i j = fz c.fin d.beg := by unfold ah; rw [hc, hd]
  rw [e]
  cases hf : c.fin with
  | none => walk_at "my wp"; walk_at "my wpF"; exact ⟨_, rfl, retOf_pure rfl⟩
  | some x =>
    walk_at "my wp"; walk_at "my wpT"; walk_at "my wp"
    refine optR_of (ix_map _ (X := .tup (cs.map CallT.V)) rfl hc) ?_
    walk_at "my wp"
    refine optR_of (ixc2 _ _) ?_
    rw [hf]
    walk_at "my wp"
    refine optR_of (ix_map _ (X := .tup (cs.map CallT.V)) rfl hd) ?_
    walk_at "my wp"
    refine optR_of (ixc1 _ _) ?_
    walk_at "my wp"
    exact retOf_pure rfl
theorem isahP_run (N : Nat) {s : S} {p : Int} {n : Nat} {cs : List CallT} {i j : Nat} (hi : i < cs.length) (hj : j < cs.length) : m_is_ahead N [whatV p n cs, .int i, .int j] s = .ok (.val (.bl (ah cs i j))) s := by
  obtain ⟨c, hc, _⟩ := at_lt hi
  obtain ⟨d, hd, _⟩ := at_lt hj
  refine mk_same rfl ?_
  unfold b_is_ahead
  walk_at "my wp0"; walk_at "my wp"
  refine optR_of (ix_map _ (X := .tup (cs.map CallT.V)) rfl hc) ?_
  walk_at "my wp"
  refine optR_of (ixc2 _ _) ?_
  have e : ah cs i j = fz c.fin d.beg := by unfold ah; rw [hc, hd]
  rw [e]
  cases c.fin with
  | none => walk_at "my wp"; walk_at "my wpF"; exact ⟨_, rfl, retOf_pure rfl⟩
  | some x =>
    walk_at "my wp"; walk_at "my wpT"; walk_at "my wp"
    refine optR_of (ix_map _ (X := .tup (cs.map CallT.V)) rfl hd) ?_
    walk_at "my wp"
    refine optR_of (ixc1 _ _) ?_
    walk_at "my wp"
    exact retOf_pure rfl
theorem ahead_run (N : Nat) {s : S} {p : Int} {n : Nat} {cs : List CallT} (hl : cs.length < 1000) {i : Nat} (hi : i < cs.length) : m_ahead_of N [whatV p n cs, .int i] s = .ok (.val (.tup (ni ((List.range cs.length).filter fun j => ah cs j i)))) s := by
  refine mk_same rfl ?_
  unfold b_ahead_of
  walk_at "my wp0"; walk_at "my wp"
  refine we_lot (fun (j : Nat) => .int (j : Int)) (fun j => ah cs j i) (List.range cs.length) ?_
  walk_at "my wp"
  refine ⟨by omega, by rw [List.length_map]; omega, ?_⟩
  refine ⟨by trivial, by rw [List.length_map, Int.toNat_natCast, rg0], by trivial, fun j hj => ?_, ?_⟩
  · walk_at "my wp"
    refine we_of (isahP_run N (List.mem_range.mp hj) hi) ?_
    walk_at "my wp"
    exact ⟨by trivial, by trivial⟩
  · exact ⟨_, rfl, retOf_pure (pure_ni _)⟩
theorem behind_run (N : Nat) {s : S} {p : Int} {n : Nat} {cs : List CallT} (hl : cs.length < 1000) {i : Nat} (hi : i < cs.length) : m_behind_of N [whatV p n cs, .int i] s = .ok (.val (.tup (ni ((List.range cs.length).filter fun j => ah cs i j)))) s := by
  refine mk_same rfl ?_
  unfold b_behind_of
  walk_at "my wp0"; walk_at "my wp"
  refine we_lot (fun (j : Nat) => .int (j : Int)) (fun j => ah cs i j) (List.range cs.length) ?_
  walk_at "my wp"
  refine ⟨by omega, by rw [List.length_map]; omega, ?_⟩
  refine ⟨by trivial, by rw [List.length_map, Int.toNat_natCast, rg0], by trivial, fun j hj => ?_, ?_⟩
  · walk_at "my wp"
    refine we_of (isahP_run N hi (List.mem_range.mp hj)) ?_
    walk_at "my wp"
    exact ⟨by trivial, by trivial⟩
  · exact ⟨_, rfl, retOf_pure (pure_ni _)⟩
theorem ni_vi (l : List Nat) : ni l = vi (l.map fun (i : Nat) => (i : Int)) := by simp [ni, vi, Function.comp_def]
theorem mem_cast {l : List Nat} {j : Nat} : (j : Int) ∈ l.map (fun (i : Nat) => (i : Int)) ↔ j ∈ l := by
  constructor
  · intro h
    obtain ⟨i, hi, e⟩ := List.mem_map.mp h
    have : i = j := by omega
    exact this ▸ hi
  · intro h; exact List.mem_map.mpr ⟨j, h, rfl⟩
theorem opIn_ni {s : S} {v : Val} {l : List Nat} (h : asQ s v = some (ni l)) (j : Nat) : opIn s (.int j) v = some (.bl (decide (j ∈ l))) := by
  rw [ni_vi] at h
  rw [opIn_vi h]; congr 2
  exact decide_eq_decide.mpr mem_cast
theorem opNotIn_ni {s : S} {v : Val} {l : List Nat} (h : asQ s v = some (ni l)) (j : Nat) : opNotIn s (.int j) v = some (.bl (!decide (j ∈ l))) := by
  rw [ni_vi] at h
  rw [opNotIn_vi h]; congr 3
  exact decide_eq_decide.mpr mem_cast
theorem okA_ni2 {l1 l2 : List Nat} {m : Nat} (h1 : ∀ i ∈ l1, i < 10000) (h2 : ∀ i ∈ l2, i < 10000) (hl1 : l1.length ≤ m) (hl2 : l2.length ≤ m) (hm : m ≤ 1000) : OkV 5000 2 (.lst [.tup (ni l1), .tup (ni l2)]) :=
  (((okV_ni h1 hl1).1).cons (((okV_ni h2 hl2).1).cons (okA_nil 1))).lst.mono (by omega) (by omega)
theorem okA_ni3 {l1 l2 l3 : List Nat} {m : Nat} (h1 : ∀ i ∈ l1, i < 10000) (h2 : ∀ i ∈ l2, i < 10000) (h3 : ∀ i ∈ l3, i < 10000) (hl1 : l1.length ≤ m) (hl2 : l2.length ≤ m) (hl3 : l3.length ≤ m) (hm : m ≤ 1000) : OkV 5000 2 (.lst [.tup (ni l1), .tup (ni l2), .tup (ni l3)]) :=
  (((okV_ni h1 hl1).1).cons (((okV_ni h2 hl2).1).cons (((okV_ni h3 hl3).1).cons (okA_nil 1)))).lst.mono (by omega) (by omega)
theorem fil_lt {m : Nat} (hm : m < 1000) (q : Nat → Bool) : ∀ i ∈ (List.range m).filter q, i < 10000 := fun i hi => by
  have := List.mem_range.mp (List.mem_filter.mp hi).1
  omega
theorem fil_len (m : Nat) (q : Nat → Bool) : ((List.range m).filter q).length ≤ m := by
  have := List.length_filter_le q (List.range m)
  simpa using this
end FT

set_option maxHeartbeats 4000000
set_option autoImplicit false
/-! orders by begins -/
namespace FT
open PySem PySem.Spec PyProof.Rows L2 FM LN
local instance : Tbl := ⟨[]⟩
def bg (cs : List CallT) (i : Nat) : Int := match cs[i]? with
  | some c => c.beg
  | none => 0
/-- by begins, then by places -/
def leI (cs : List CallT) (i j : Nat) : Bool := decide (bg cs i < bg cs j ∨ (bg cs i = bg cs j ∧ i ≤ j))
def byB (cs : List CallT) (l : List Nat) : List Nat := l.mergeSort (leI cs)
theorem byB_perm (cs : List CallT) (l : List Nat) : (byB cs l).Perm l := List.mergeSort_perm _ _
theorem byB_sorted (cs : List CallT) (l : List Nat) : (byB cs l).Pairwise fun i j => bg cs i ≤ bg cs j := by
  have h := List.pairwise_mergeSort (le := leI cs) (fun a b c h1 h2 => by simp [leI] at h1 h2 ⊢; omega) (fun a b => by simp [leI]; omega) l
  exact h.imp fun {a b} h => by simp [leI] at h; omega
theorem keyOf_what {p : Int} {n : Nat} {cs : List CallT} {i : Nat} (hi : i < cs.length) : FM.keyOf (whatV p n cs) (i : Int) = some (bg cs i) := by
  obtain ⟨c, hc, _⟩ := at_lt hi
  have e1 : tIx (whatV p n cs) 1 = some (.tup (cs.map CallT.V)) := rfl
  have e2 : tIx (.tup (cs.map CallT.V)) (i : Int) = some c.V := ix_map [] (X := .tup (cs.map CallT.V)) rfl hc
  have e3 : tIx c.V 1 = some (.int c.beg) := ixc1 [] c
  unfold FM.keyOf
  rw [e1]
  simp only [Option.bind_some, e2, e3]
  unfold bg
  rw [hc]
theorem leBy_eq (key : Int → Int) (x y : Int) : leBy key x y = decide (key x < key y ∨ (key x = key y ∧ x ≤ y)) := by
  have := PySem.W.dataLe_ii (β := Int) key id
  exact congrFun (congrFun this x) y
theorem sort_cast (cs : List CallT) (key : Int → Int) (l : List Nat) (h : ∀ i ∈ l, key (i : Int) = bg cs i) : (l.map fun (i : Nat) => (i : Int)).mergeSort (leBy key) = (byB cs l).map fun (i : Nat) => (i : Int) := by
  unfold byB
  rw [List.map_mergeSort (s := leBy key) (fun a ha b hb => ?_)]
  rw [leBy_eq, h a ha, h b hb]
  unfold leI
  congr 1
  simp
theorem fSortBy_ni {a : Ex} {ρ : FM.Env} {s s1 : S} {x : Val} {p : Int} {n : Nat} {cs : List CallT} {l : List Nat} {wi : Nat} (h : a ρ s = .ok x s1) (hx : asQ s1 x = some (ni l)) (hw : ρ[wi]? = some (some (whatV p n cs))) (hl : ∀ i ∈ l, i < cs.length) : fSortBy a wi ρ s = .ok (ni (byB cs l)) s1 := by
  have ei : intsOf (ni l) = some (l.map fun (i : Nat) => (i : Int)) := by rw [ni_vi, intsOf_vi]
  unfold fSortBy
  rw [h, bind_ok, hx, hw]
  simp only [Option.bind_some, ei]
  rw [if_pos ?_, sort_cast cs _ l (fun i hi => by rw [keyOf_what (hl i hi)]; rfl)]
  · rw [ni_vi]; rfl
  · refine ⟨List.all_eq_true.mpr fun z hz => ?_, rfl⟩
    obtain ⟨i, hi, rfl⟩ := List.mem_map.mp hz
    rw [keyOf_what (hl i hi)]; rfl
theorem by_run (N : Nat) {s : S} {p : Int} {n : Nat} {cs : List CallT} {l : List Nat} {L : Val} (hL : asQ s L = some (ni l)) (hl : ∀ i ∈ l, i < cs.length) : m_by_begins N [whatV p n cs, L] s = .ok (.val (.tup (ni (byB cs l)))) s := by
  refine mk_same rfl ?_
  unfold b_by_begins
  walk_at "my wp0"; walk_at "my wp"
  refine we_of (fSortBy_ni (p := p) (n := n) (l := l) rfl (asQ_push hL) rfl hl) ?_
  walk_at "my wp"
  exact retOf_pure (pure_ni _)
/-- all but i and what is in l -/
def restL (cs : List CallT) (i : Nat) (l : List Nat) : List Nat := (List.range cs.length).filter fun j => decide (j ≠ i) && !decide (j ∈ l)
theorem restL_lt {cs : List CallT} {i : Nat} {l : List Nat} : ∀ j ∈ restL cs i l, j < cs.length := fun j hj => List.mem_range.mp (List.mem_filter.mp hj).1
theorem ni_app (a b : List Nat) : ni (a ++ b) = ni a ++ ni b := List.map_append
theorem ni_len (a : List Nat) : (ni a).length = a.length := List.length_map _
theorem byB_len (cs : List CallT) (l : List Nat) : (byB cs l).length = l.length := (byB_perm cs l).length_eq
theorem ne_cast (i j : Nat) : decide ((i : Int) ≠ (j : Int)) = decide (i ≠ j) := decide_eq_decide.mpr ⟨fun h e => h (by rw [e]), fun h e => h (by omega)⟩
theorem split_run (N : Nat) {s : S} {p : Int} {n : Nat} {cs : List CallT} (hc : cs.length < 1000) {i : Nat} {l : List Nat} {L : Val} (hL : asQ s L = some (ni l)) (hl : ∀ i ∈ l, i < cs.length) (hz : l.length < 2000) : m_split_order N [whatV p n cs, .int i, L] s = .ok (.val (.tup (ni (byB cs l ++ i :: byB cs (restL cs i l))))) s := by
  refine mk_same rfl ?_
  unfold b_split_order
  walk_at "my wp0"; walk_at "my wp"
  refine ⟨by omega, by rw [List.length_map]; omega, ?_⟩
  rw [List.length_map, Int.toNat_natCast]
  refine we_pick (fun (j : Nat) => .int (j : Int)) (fun j => decide (j ≠ i) && !decide (j ∈ l)) (fun (j : Nat) => .int (j : Int)) (List.range cs.length) (rg0 _) rfl (fun j hj => ?_) ?_
  · walk_at "my wp"
    rw [ne_cast]
    refine ⟨fun e => ?_, fun e => ?_⟩
    · walk_at "my wp"
      refine opt_of (opNotIn_ni (asQ_push hL) j) ?_
      walk_at "my wp"
      refine ⟨by rw [e]; rfl, by trivial, fun _ => by walk_at "my wp"; exact ⟨by trivial, by trivial⟩⟩
    · refine ⟨by rw [e]; rfl, by trivial, fun z => ?_⟩
      rw [e] at z; cases z
  walk_at "my wp"
  refine we_of (by_run N (asQ_push hL) hl) ?_
  walk_at "my wp"
  refine we_of (by_run N (l := restL cs i l) rfl restL_lt) ?_
  walk_at "my wp"
  have h1 := byB_len cs l
  have h2 := byB_len cs (restL cs i l)
  have h3 : (restL cs i l).length ≤ cs.length := fil_len _ _
  refine ⟨by simp [ni_len]; omega, ?_⟩
  have e : ni (byB cs l) ++ .int (i : Int) :: (ni (byB cs (restL cs i l)) ++ []) = ni (byB cs l ++ i :: byB cs (restL cs i l)) := by
    rw [ni_app, List.append_nil]; rfl
  rw [e]
  walk_at "my wp"
  exact retOf_pure (pure_ni _)
def aheadL (cs : List CallT) (i : Nat) : List Nat := (List.range cs.length).filter fun j => ah cs j i
def lateL (cs : List CallT) (i : Nat) : List Nat := (List.range cs.length).filter fun j => !decide (j ∈ i :: (List.range cs.length).filter fun j => ah cs i j)
theorem early_run (N : Nat) {s : S} {p : Int} {n : Nat} {cs : List CallT} (hc : cs.length < 1000) {i : Nat} (hi : i < cs.length) : m_early_order N [whatV p n cs, .int i] s = .ok (.val (.tup (ni (byB cs (aheadL cs i) ++ i :: byB cs (restL cs i (aheadL cs i)))))) s := by
  refine mk_same rfl ?_
  unfold b_early_order
  walk_at "my wp0"; walk_at "my wp"
  refine we_of (ahead_run N hc hi) ?_
  walk_at "my wp"
  have h3 : (aheadL cs i).length ≤ cs.length := fil_len _ _
  refine we_of (split_run N hc (l := aheadL cs i) rfl (fun j hj => List.mem_range.mp (List.mem_filter.mp hj).1) (by omega)) ?_
  exact ⟨_, rfl, retOf_pure (pure_ni _)⟩
theorem late_run (N : Nat) {s : S} {p : Int} {n : Nat} {cs : List CallT} (hc : cs.length < 1000) {i : Nat} (hi : i < cs.length) : m_late_order N [whatV p n cs, .int i] s = .ok (.val (.tup (ni (byB cs (lateL cs i) ++ i :: byB cs (restL cs i (lateL cs i)))))) s := by
  refine mk_same rfl ?_
  unfold b_late_order
  walk_at "my wp0"; walk_at "my wp"
  refine we_of (behind_run N hc hi) ?_
  walk_at "my wp"
  have h3 : ((List.range cs.length).filter fun j => ah cs i j).length ≤ cs.length := fil_len _ _
  refine ⟨by simp [ni_len]; omega, ?_⟩
  walk_at "my wp"
  refine ⟨by omega, by rw [List.length_map]; omega, ?_⟩
  rw [List.length_map, Int.toNat_natCast]
  refine we_pick (fun (j : Nat) => .int (j : Int)) (fun j => !decide (j ∈ i :: (List.range cs.length).filter fun j => ah cs i j)) (fun (j : Nat) => .int (j : Int)) (List.range cs.length) (rg0 _) rfl (fun j hj => ?_) ?_
  · walk_at "my wp"
    refine opt_of (opNotIn_ni (l := i :: (List.range cs.length).filter fun j => ah cs i j) (by simp [ni, asQ]) j) ?_
    walk_at "my wp"
    exact ⟨by trivial, by trivial, fun _ => by walk_at "my wp"; exact ⟨by trivial, by trivial⟩⟩
  walk_at "my wp"
  have h4 : (lateL cs i).length ≤ cs.length := fil_len _ _
  refine we_of (split_run N hc (l := lateL cs i) rfl (fun j hj => List.mem_range.mp (List.mem_filter.mp hj).1) (by omega)) ?_
  exact ⟨_, rfl, retOf_pure (pure_ni _)⟩
end FT

set_option maxHeartbeats 4000000
set_option autoImplicit false
/-! the law's orders -/
namespace FT
open PySem PySem.Spec PyProof.Rows L2 FM LN
local instance : Tbl := ⟨[]⟩
theorem we_sortV {a : Ex} {ρ : FM.Env} {s : S} {Q : List Val → S → Prop} (h : WE (a ρ s) fun x s1 => OptR (asQ s1 x) fun xs => srtOk xs = true ∧ Q (sortV xs) s1) : WE (fSortV a ρ s) Q := we_bind (h.mono fun _ _ q => by
  obtain ⟨xs, e, k, q⟩ := q
  rw [e]
  show WE (if _ then _ else _) _
  rw [if_pos k]; exact we_ok q)
def prV (cs : List CallT) (i : Nat) : Val := .tup [.int (bg cs i), .int (i : Int)]
theorem srt_pairs (cs : List CallT) (l : List Nat) : srtOk (l.map (prV cs)) = true := by
  unfold srtOk
  simp only [Bool.and_eq_true, Bool.or_eq_true, List.all_eq_true, decide_eq_true_eq]
  refine ⟨⟨⟨pureAll_map _ (fun _ => rfl) l, fun x hx y hy => ?_⟩, .inl fun x hx => ?_⟩, fun x hx => ?_⟩
  · obtain ⟨i, _, rfl⟩ := List.mem_map.mp hx
    obtain ⟨j, _, rfl⟩ := List.mem_map.mp hy
    simp [prV, toD, toDs, PySem.W.alike, PySem.W.alikeAll]
  · obtain ⟨i, _, rfl⟩ := List.mem_map.mp hx
    rfl
  · obtain ⟨i, _, rfl⟩ := List.mem_map.mp hx
    simp [prV, toD, toDs, PyData.depth, PyData.depthAll]
theorem sort_pairs (cs : List CallT) (l : List Nat) : sortV (l.map (prV cs)) = (byB cs l).map (prV cs) := by
  unfold sortV byB
  rw [List.map_mergeSort (s := leV) (fun a ha b hb => ?_)]
  have := PySem.W.dataLe_ii (β := Nat) (bg cs) (fun i => (i : Int))
  have h2 : leV (prV cs a) (prV cs b) = PySem.W.dataLe false (fun i : Nat => .tuple [.int (bg cs i), .int (i : Int)]) a b := by
    unfold leV PySem.W.dataLe prV
    simp [toD, toDs, PySem.W.sortLe]
  rw [h2, this]
  unfold leI
  congr 1
  simp
theorem lawby_run (N : Nat) {s : S} {cs : List CallT} {l : List Nat} (hl : ∀ i ∈ l, i < cs.length) : m_law_by_begins N [.tup (cs.map CallT.V), .lst (ni l)] s = .ok (.val (.tup (ni (byB cs l)))) s := by
  refine mk_same rfl ?_
  unfold b_law_by_begins
  walk_at "my wp0"; walk_at "my wp"
  refine we_sortV ?_
  walk_at "my wp"
  refine we_pick (fun (j : Nat) => .int (j : Int)) (fun _ => true) (prV cs) l rfl rfl (fun j hj => ?_) ?_
  · obtain ⟨c, hc, _⟩ := at_lt (hl j hj)
    walk_at "my wp"
    refine ⟨by trivial, by trivial, fun _ => ?_⟩
    walk_at "my wp"
    refine optR_of (ix_map _ (X := .tup (cs.map CallT.V)) rfl hc) ?_
    walk_at "my wp"
    refine optR_of (ixc1 _ _) ?_
    walk_at "my wp"
    refine ⟨?_, by trivial⟩
    unfold prV bg; rw [hc]
  walk_at "my wp"
  rw [List.filter_eq_self.mpr (fun _ _ => rfl)]
  refine ⟨srt_pairs cs l, ?_⟩
  rw [sort_pairs]
  walk_at "my wp"
  refine we_pick (prV cs) (fun _ => true) (fun (j : Nat) => .int (j : Int)) (byB cs l) rfl rfl (fun j hj => ?_) ?_
  · walk_at "my wp"
    refine ⟨by trivial, by trivial, fun _ => ?_⟩
    walk_at "my wp"
    exact ⟨by trivial, by trivial⟩
  rw [List.filter_eq_self.mpr (fun _ _ => rfl)]
  exact ⟨_, rfl, retOf_pure (pure_ni _)⟩
theorem isint_run (N : Nat) (s : S) (i : Int) : m_law_is_int N [.int i] s = .ok (.val (.bl true)) s := by
  refine mk_same rfl ?_
  unfold b_law_is_int
  walk_at "my wp0"; walk_at "my wp"; walk_at "my wpT"
  walk_at "my wp"
  exact retOf_pure rfl
theorem srt_ni (l : List Nat) : srtOk (ni l) = true := by
  unfold srtOk
  simp only [Bool.and_eq_true, Bool.or_eq_true, List.all_eq_true, decide_eq_true_eq]
  refine ⟨⟨⟨pure_ni l, fun x hx y hy => ?_⟩, .inr fun x hx => ?_⟩, fun x hx => ?_⟩
  · obtain ⟨i, _, rfl⟩ := List.mem_map.mp hx
    obtain ⟨j, _, rfl⟩ := List.mem_map.mp hy
    simp [toD, PySem.W.alike]
  · obtain ⟨i, _, rfl⟩ := List.mem_map.mp hx
    rfl
  · obtain ⟨i, _, rfl⟩ := List.mem_map.mp hx
    simp [toD, PyData.depth]
theorem sort_ni (l : List Nat) : sortV (ni l) = ni (l.mergeSort fun a b => decide (a ≤ b)) := by
  unfold sortV ni
  rw [List.map_mergeSort (s := leV) (fun a ha b hb => ?_)]
  have := PySem.W.dataLe_int (β := Nat) (fun i => (i : Int))
  have h2 : leV (.int (a : Int)) (.int (b : Int)) = PySem.W.dataLe false (fun i : Nat => .int (i : Int)) a b := by
    unfold leV PySem.W.dataLe
    simp [toD, PySem.W.sortLe]
  rw [h2, this]
  simp
theorem nat_sorted : ∀ {l m : List Nat}, l.Perm m → l.Pairwise (· ≤ ·) → m.Pairwise (· ≤ ·) → l = m
  | [], m, h, _, _ => (List.nil_perm.mp h).symm
  | a :: l, m, h, h1, h2 => by
    cases m with
    | nil => exact absurd h.symm (by simp)
    | cons b m =>
      obtain ⟨a1, a2⟩ := List.pairwise_cons.mp h1
      obtain ⟨b1, b2⟩ := List.pairwise_cons.mp h2
      have e : a = b := by
        have m1 : a ∈ b :: m := h.mem_iff.mp List.mem_cons_self
        have m2 : b ∈ a :: l := h.mem_iff.mpr List.mem_cons_self
        rcases List.mem_cons.mp m1 with e | m1
        · exact e
        · rcases List.mem_cons.mp m2 with e | m2
          · exact e.symm
          · have := a1 b m2
            have := b1 a m1
            omega
      subst e
      rw [nat_sorted (List.perm_cons a |>.mp h) a2 b2]
theorem sort_range {o : List Nat} {m : Nat} (h : o.Perm (List.range m)) : (o.mergeSort fun a b => decide (a ≤ b)) = List.range m := by
  refine nat_sorted ((List.mergeSort_perm _ _).trans h) ?_ ?_
  · have := List.pairwise_mergeSort (le := fun a b : Nat => decide (a ≤ b)) (fun a b c h1 h2 => by simp at h1 h2 ⊢; omega) (fun a b => by simp; omega) o
    exact this.imp fun h => by simpa using h
  · exact List.pairwise_le_range
theorem ne_same {s : S} {v : Val} (h : FM.pure v = true) (hd : (toD v).depth ≤ 64) (hs : ∀ z, v ≠ .str z) : opNe s v v = some (.bl false) := by
  unfold opNe
  split
  · exact absurd rfl (hs _)
  · simp only [res_pure h, veq_refl h]
    rw [if_pos (by simp [shallow, hd])]; rfl
theorem depth_ni (l : List Nat) : (toD (.lst (ni l))).depth ≤ 64 := by
  have : PyData.depthAll (toDs (ni l)) ≤ 0 := by
    induction l with
    | nil => simp [ni, toDs, PyData.depthAll]
    | cons a l ih => simp only [ni, List.map_cons, toDs, toD, PyData.depthAll, PyData.depth] at ih ⊢; omega
  simp only [toD, PyData.depth]; omega
theorem order_run (N : Nat) {s : S} {cs : List CallT} (hc : cs.length < 1000) {o : List Nat} (hp : o.Perm (List.range cs.length)) (ho : ∀ (pre rest : List Nat) (x : Nat), o = pre ++ x :: rest → ∀ y ∈ x :: rest, ah cs y x = false) : m_law_is_order N [.tup (cs.map CallT.V), .tup (ni o)] s = .ok (.val (.bl true)) s := by
  have hlt : ∀ i ∈ o, i < cs.length := fun i hi => List.mem_range.mp (hp.mem_iff.mp hi)
  have hol : o.length = cs.length := by rw [hp.length_eq, List.length_range]
  refine mk_same rfl ?_
  unfold b_law_is_order
  walk_at "my wp0"; walk_at "my wp"; walk_at "my wpF"
  walk_at "my wp"
  refine we_pick (fun (j : Nat) => .int (j : Int)) (fun _ => false) (fun _ => .int 1) o rfl rfl (fun j hj => ?_) ?_
  · walk_at "my wp"
    refine we_of (isint_run N _ _) ?_
    walk_at "my wp"
    exact ⟨by trivial, by trivial, fun z => by cases z⟩
  walk_at "my wp"
  rw [List.filter_eq_nil_iff.mpr (fun _ _ => by simp)]
  refine opt_of (opNe_nil (l := []) rfl) ?_
  walk_at "my wp"; walk_at "my wpF"
  walk_at "my wp"
  refine we_sortV ?_
  walk_at "my wp"
  refine ⟨srt_ni o, ?_⟩
  rw [sort_ni, sort_range hp]
  walk_at "my wp"
  refine ⟨by omega, by rw [List.length_map]; omega, ?_⟩
  rw [List.length_map, Int.toNat_natCast, show rangeV 0 cs.length = ni (List.range cs.length) from rg0 _]
  walk_at "my wp"
  refine opt_of (ne_same (by unfold FM.pure; exact pure_ni _) (depth_ni _) (fun _ z => by cases z)) ?_
  walk_at "my wp"; walk_at "my wpF"
  walk_at "my wp"
  refine ws_forL (fun xs ρ st => ∃ (pre rest : List Nat) (a b : Option Val), o = pre ++ rest ∧ xs = ((ni rest).zipIdx pre.length).map (fun p => Val.tup [.int p.2, p.1]) ∧ ρ = [some (.tup (cs.map CallT.V)), some (.tup (ni o)), a, b, none, none] ∧ st = [] :: s) ?_ ?_ _ _ _ ⟨[], o, none, none, rfl, rfl, rfl, rfl⟩
  · rintro x xs ρ st ⟨pre, rest, a, b, e1, e2, rfl, rfl⟩
    cases rest with
    | nil => cases e2
    | cons i rest =>
      have e3 : ((ni (i :: rest)).zipIdx pre.length).map (fun p => Val.tup [.int p.2, p.1]) = Val.tup [.int pre.length, .int (i : Int)] :: ((ni rest).zipIdx (pre.length + 1)).map (fun p => Val.tup [.int p.2, p.1]) := by
        simp [ni, List.zipIdx_cons]
      rw [e3] at e2
      injection e2 with e2 e4
      subst e2; subst e4
      refine ⟨rfl, ?_⟩
      unfold l1_law_is_order
      walk_at "my wp"
      refine we_altL ?_
      walk_at "my wp"
      have hd : cutL (ni o) (some (pre.length : Int)) none = ni (i :: rest) := by
        rw [cutT_from (n := pre.length) _ (by rw [ni_len, e1]; simp), e1, ni_app]
        exact List.drop_left' (by rw [ni_len])
      rw [hd]
      have hr := ho pre rest i e1
      refine we_pick (fun (j : Nat) => .int (j : Int)) (fun j => ah cs j i) (fun _ => .int 1) (i :: rest) rfl rfl (fun j hj => ?_) ?_
      · walk_at "my wp"
        refine we_of (isahL_run N (hlt j (by rw [e1]; exact List.mem_append_right _ hj)) (hlt i (by rw [e1]; simp))) ?_
        walk_at "my wp"
        exact ⟨by trivial, by trivial, fun _ => by walk_at "my wp"; exact ⟨by trivial, by trivial⟩⟩
      walk_at "my wp"
      rw [List.filter_eq_nil_iff.mpr (fun y hy => by rw [hr y hy]; simp)]
      refine opt_of (opNe_nil (l := []) rfl) ?_
      walk_at "my wp"; walk_at "my wpF"
      walk_at "my wp"
      exact ⟨pre ++ [i], rest, _, _, by rw [e1, List.append_assoc]; rfl, by simp, by trivial, by trivial⟩
  · rintro ρ st ⟨pre, rest, a, b, e1, e2, rfl, rfl⟩
    refine ⟨rfl, ?_⟩
    walk_at "my wp"
    exact retOf_pure rfl
end FT

set_option maxHeartbeats 4000000
set_option autoImplicit false
/-! both are orders -/
namespace FT
open PySem PySem.Spec PyProof.Rows L2 FM LN
local instance : Tbl := ⟨[]⟩
/-- no call ends ahead of its begin -/
def Ordd (cs : List CallT) : Prop := ∀ c ∈ cs, ∀ e, c.fin = some e → c.beg ≤ e
theorem ah_some {cs : List CallT} {i j : Nat} (h : ah cs i j = true) : ∃ c d e, cs[i]? = some c ∧ cs[j]? = some d ∧ c.fin = some e ∧ e < d.beg := by
  unfold ah at h
  split at h
  · rename_i c d hc hd
    unfold fz at h
    split at h
    · cases h
    · rename_i e b he
      exact ⟨c, d, _, hc, hd, he, by simpa using h⟩
  · cases h
theorem ah_lt {cs : List CallT} (o : Ordd cs) {i j : Nat} (h : ah cs i j = true) : bg cs i < bg cs j := by
  obtain ⟨c, d, e, hc, hd, he, hl⟩ := ah_some h
  have := o c (List.mem_of_getElem? hc) e he
  unfold bg; rw [hc, hd]
  show c.beg < d.beg
  omega
theorem ah_self {cs : List CallT} (o : Ordd cs) (i : Nat) : ah cs i i = false := by
  cases h : ah cs i i with
  | false => rfl
  | true => have := ah_lt o h; omega
theorem ah_trans {cs : List CallT} (o : Ordd cs) {i j k : Nat} (h1 : ah cs i j = true) (h2 : ah cs j k = true) : ah cs i k = true := by
  obtain ⟨c, d, e, hc, hd, he, hl⟩ := ah_some h1
  obtain ⟨d', f, e', hd', hf, he', hl'⟩ := ah_some h2
  rw [hd] at hd'; cases hd'
  have := o d (List.mem_of_getElem? hd) e' he'
  unfold ah; rw [hc, hf]
  show fz c.fin f.beg = true
  rw [he]
  show decide (e < f.beg) = true
  simp; omega
theorem by_pair {cs : List CallT} (o : Ordd cs) (l : List Nat) : (byB cs l).Pairwise fun x y => ah cs y x = false := (byB_sorted cs l).imp fun {a b} h => by
  cases q : ah cs b a with
  | false => rfl
  | true => have := ah_lt o q; omega
theorem pair_order {cs : List CallT} (o : Ordd cs) {l : List Nat} (h : l.Pairwise fun x y => ah cs y x = false) : ∀ (pre rest : List Nat) (x : Nat), l = pre ++ x :: rest → ∀ y ∈ x :: rest, ah cs y x = false := by
  rintro pre rest x rfl y hy
  have h2 := (List.pairwise_append.mp h).2.1
  rcases List.mem_cons.mp hy with rfl | hy
  · exact ah_self o _
  · exact (List.pairwise_cons.mp h2).1 y hy
theorem mem_rest {cs : List CallT} {i : Nat} {l : List Nat} {j : Nat} : j ∈ restL cs i l ↔ j < cs.length ∧ j ≠ i ∧ j ∉ l := by
  unfold restL
  simp [List.mem_filter]
theorem mem_aheadL {cs : List CallT} {i j : Nat} : j ∈ aheadL cs i ↔ j < cs.length ∧ ah cs j i = true := by
  unfold aheadL
  simp [List.mem_filter]
theorem mem_lateL {cs : List CallT} {i j : Nat} : j ∈ lateL cs i ↔ j < cs.length ∧ j ≠ i ∧ ah cs i j = false := by
  unfold lateL
  simp only [List.mem_filter, List.mem_range, List.mem_cons, Bool.not_eq_true', decide_eq_false_iff_not, not_or, not_and, Bool.not_eq_true]
  constructor
  · rintro ⟨h1, h2, h3⟩; exact ⟨h1, h2, h3 h1⟩
  · rintro ⟨h1, h2, h3⟩; exact ⟨h1, h2, fun _ => h3⟩
theorem order_perm {cs : List CallT} {i : Nat} (hi : i < cs.length) {l : List Nat} (hl : ∀ j ∈ l, j < cs.length) (hn : l.Nodup) (hil : i ∉ l) : (byB cs l ++ i :: byB cs (restL cs i l)).Perm (List.range cs.length) := by
  have hr : (restL cs i l).Nodup := List.Pairwise.filter _ List.nodup_range
  have h1 := (byB_perm cs l).nodup_iff.mpr hn
  have h2 := (byB_perm cs (restL cs i l)).nodup_iff.mpr hr
  refine (List.perm_ext_iff_of_nodup ?_ List.nodup_range).mpr fun a => ?_
  · refine List.nodup_append.mpr ⟨h1, List.nodup_cons.mpr ⟨fun z => ?_, h2⟩, fun a ha b hb e => ?_⟩
    · exact (mem_rest.mp ((byB_perm cs _).mem_iff.mp z)).2.1 rfl
    · subst e
      have ha := (byB_perm cs l).mem_iff.mp ha
      rcases List.mem_cons.mp hb with rfl | hb
      · exact hil ha
      · exact (mem_rest.mp ((byB_perm cs _).mem_iff.mp hb)).2.2 ha
  · rw [List.mem_append, List.mem_cons, (byB_perm cs l).mem_iff, (byB_perm cs (restL cs i l)).mem_iff, mem_rest, List.mem_range]
    constructor
    · rintro (h | h | h)
      · exact hl a h
      · omega
      · exact h.1
    · intro h
      by_cases h1 : a ∈ l
      · exact .inl h1
      · by_cases h2 : a = i
        · exact .inr (.inl h2)
        · exact .inr (.inr ⟨h, h2, h1⟩)
theorem split_pair {cs : List CallT} (o : Ordd cs) {i : Nat} {l r : List Nat} (h1 : ∀ x ∈ l, ah cs i x = false) (h2 : ∀ y ∈ r, ah cs y i = false) (h3 : ∀ x ∈ l, ∀ y ∈ r, ah cs y x = false) : (byB cs l ++ i :: byB cs r).Pairwise fun x y => ah cs y x = false := by
  refine List.pairwise_append.mpr ⟨by_pair o l, List.pairwise_cons.mpr ⟨fun y hy => h2 y ((byB_perm cs r).mem_iff.mp hy), by_pair o r⟩, fun x hx y hy => ?_⟩
  have hx := (byB_perm cs l).mem_iff.mp hx
  rcases List.mem_cons.mp hy with rfl | hy
  · exact h1 x hx
  · exact h3 x hx y ((byB_perm cs r).mem_iff.mp hy)
theorem early_pair {cs : List CallT} (o : Ordd cs) (i : Nat) : (byB cs (aheadL cs i) ++ i :: byB cs (restL cs i (aheadL cs i))).Pairwise fun x y => ah cs y x = false := by
  refine split_pair o (fun x hx => ?_) (fun y hy => ?_) (fun x hx y hy => ?_)
  · have hx := (mem_aheadL.mp hx).2
    cases q : ah cs i x with
    | false => rfl
    | true => have := ah_lt o q; have := ah_lt o hx; omega
  · obtain ⟨a, b, c⟩ := mem_rest.mp hy
    cases q : ah cs y i with
    | false => rfl
    | true => exact absurd (mem_aheadL.mpr ⟨a, q⟩) c
  · have hx := (mem_aheadL.mp hx).2
    obtain ⟨a, b, c⟩ := mem_rest.mp hy
    cases q : ah cs y x with
    | false => rfl
    | true => exact absurd (mem_aheadL.mpr ⟨a, ah_trans o q hx⟩) c
theorem late_pair {cs : List CallT} (o : Ordd cs) (i : Nat) : (byB cs (lateL cs i) ++ i :: byB cs (restL cs i (lateL cs i))).Pairwise fun x y => ah cs y x = false := by
  have hR : ∀ y, y ∈ restL cs i (lateL cs i) → ah cs i y = true := fun y hy => by
    obtain ⟨a, b, c⟩ := mem_rest.mp hy
    cases q : ah cs i y with
    | true => rfl
    | false => exact absurd (mem_lateL.mpr ⟨a, b, q⟩) c
  refine split_pair o (fun x hx => (mem_lateL.mp hx).2.2) (fun y hy => ?_) (fun x hx y hy => ?_)
  · have := ah_lt o (hR y hy)
    cases q : ah cs y i with
    | false => rfl
    | true => have := ah_lt o q; omega
  · have h := hR y hy
    cases q : ah cs y x with
    | false => rfl
    | true =>
      have := ah_trans o h q
      rw [(mem_lateL.mp hx).2.2] at this
      cases this
/-- the law's own lots -/
def othersL (cs : List CallT) (i : Nat) : List Nat := (List.range cs.length).filter fun j => decide (j ≠ i)
theorem aheadW_eq {cs : List CallT} (o : Ordd cs) (i : Nat) : ((othersL cs i).filter fun j => ah cs j i) = aheadL cs i := by
  unfold othersL aheadL
  rw [List.filter_filter]
  refine List.filter_congr fun j _ => ?_
  by_cases h : j = i
  · subst h; simp [ah_self o]
  · simp [h]
theorem lateW_eq {cs : List CallT} (i : Nat) : ((othersL cs i).filter fun j => !ah cs i j) = lateL cs i := by
  unfold othersL lateL
  rw [List.filter_filter]
  refine List.filter_congr fun j hj => ?_
  have hj := List.mem_range.mp hj
  by_cases h : j = i
  · simp [h]
  · cases q : ah cs i j <;> simp [h, q, hj, List.mem_filter]
theorem restW_eq {cs : List CallT} (i : Nat) (l : List Nat) : ((othersL cs i).filter fun j => !decide (j ∈ l)) = restL cs i l := by
  unfold othersL restL
  rw [List.filter_filter]
  refine List.filter_congr fun j _ => ?_
  rw [Bool.and_comm]
end FT

set_option autoImplicit false
/-! the law's bag is made -/
namespace FT
open PySem PySem.Spec PyProof.Rows L2 FM LN
local instance : Tbl := ⟨[]⟩
theorem bag_start (ns : List Int) (hn : ns.length ≤ 63) : ∃ b0 : BagT, b0.Ok ∧ ∀ (ρ : FM.Env), ρ[0]? = some (some (.scr (vi ns))) → (sAsg (eFnL (m_law_bag 100) (aCons (eVar 0) aNil)) (FM.gName 1)) ρ [[]] = .nx (ρ.set 1 (some (.ref 0 0))) [[bagC b0]] := by
  have cut : cutL (vi ns) none (some 63) = vi ns := by
    simp [cutL, FM.sIx]
    rw [Nat.min_eq_right hn, List.take_of_length_le (by simp)]
  have comp : compL (still (.lst (vi ns)) (vi ns)) (FM.gName 1) FM.tYes (eCall bAbs (aCons (eVar 1) aNil)) [some (.scr (vi ns)), none] (vi ns) [] [[], []] = .ok (ns.map fun n => .int (if n < 0 then -n else n)) [[], []] :=
    compL_all Val.int _ rfl ns fun n _ => ⟨_, rfl, by simp⟩
  have ec : (ns.map fun n => Val.int (if n < 0 then -n else n)) = vi (ns.map fun n => if n < 0 then -n else n) := by simp [vi, Function.comp_def]
  rw [ec] at comp
  have o0 : (⟨0, 1234567891, 0, ns.map fun n => if n < 0 then -n else n⟩ : BagT).Ok := ⟨Int.le_refl _, ⟨by show (0 : Int) ≤ 1234567891; omega, by show (1234567891 : Int) < 2147483647; omega⟩, Int.le_refl _, by simpa using hn⟩
  have rc : retOf 1 [.lst [.int 0, .int 1234567891, .int 0, .lst (vi (ns.map fun n => if n < 0 then -n else n))]] (.ref 1 0) = some (.cell (.lst [.int 0, .int 1234567891, .int 0, .lst (vi (ns.map fun n => if n < 0 then -n else n))])) := retOf_cell rfl (by simp [pureAll, FM.pure])
  have bag : m_law_bag 100 [.scr (vi ns)] [[]] = .ok (.cell (bagC ⟨0, 1234567891, 0, ns.map fun n => if n < 0 then -n else n⟩)) [[]] := by
    simp [m_law_bag, b_law_bag, mkFn, asQ, asL, cut, FM.wipe, comp, pushC, rc, bagC]
  refine ⟨_, o0, fun ρ h => ?_⟩
  have e : eVar 0 ρ [[]] = .ok (.scr (vi ns)) [[]] := by rw [run_var, h]
  refine sAsg_of ?_
  rw [run_fnL, aCons_of (r := aNil) e rfl, bind_ok, bag]
  rfl
end FT

set_option maxHeartbeats 8000000
set_option autoImplicit false
/-! the law's turn -/
namespace FT
open PySem PySem.Spec PyProof.Rows L2 FM LN
local instance : Tbl := ⟨[]⟩
theorem ws_forN {keep : S → Bool} {g : Gx} {b : Sx} {ρ : FM.Env} {s : S} {N : FM.Env → S → Prop} {T : Val → S → Prop} (hk : keep s = true) (h : N ρ s) : WS (forL keep g b [] ρ s) N T := by
  show WS (if _ then _ else _) N T
  rw [if_pos hk]; exact h
theorem ws_forC {keep : S → Bool} {g : Gx} {b : Sx} {x : Val} {xs : List Val} {ρ : FM.Env} {s : S} {N : FM.Env → S → Prop} {T : Val → S → Prop} (hk : keep s = true) (h : OptR (g x ρ) fun ρ1 => WS (b ρ1 s) (fun ρ2 s2 => WS (forL keep g b xs ρ2 s2) N T) T) : WS (forL keep g b (x :: xs) ρ s) N T := by
  obtain ⟨ρ1, e, w⟩ := h
  unfold forL
  rw [if_pos hk, e]
  show WS (match b ρ1 s with | .nx ρ2 s2 => _ | .ct ρ2 s2 => _ | .bk ρ2 s2 => _ | .rt v s2 => _ | .ex e s2 => _ | .no => _) N T
  revert w
  cases b ρ1 s <;> intro w <;> first | exact w | exact w.elim
theorem set_last {α : Type} (l : List α) (x y : α) : (l ++ [x]).set l.length y = l ++ [y] := by
  rw [List.set_append_right _ _ (Nat.le_refl _), Nat.sub_self]; rfl
theorem get_last {α : Type} (l : List α) (x : α) : (l ++ [x])[l.length]? = some x := by
  rw [List.getElem?_append_right (Nat.le_refl _), Nat.sub_self]; rfl
theorem hb_app {fr : List Cell} (h : HB [fr]) (c : Cell) : HB [fr ++ [c]] := by
  obtain ⟨b, e, o⟩ := h
  refine ⟨b, ?_, o⟩
  have e : fr[0]? = some (bagC b) := e
  show (fr ++ [c])[0]? = _
  cases fr with
  | nil => cases e
  | cons a fr => exact e
/-- a dead list and a live one, the same -/
theorem alike_live (N : Nat) {s : S} {b d : Nat} {xs : List Val} {f n : Nat} (h : OkV b d (.lst xs)) (hb : b ≤ 30000) (hd : d ≤ 60) (hl : lk s f n = some (.lst xs)) : m_law_alike N [.lst xs, .ref f n] s = .ok (.val (.bl true)) s := by
  have hp : FM.pure (.lst xs) = true := h.pur
  have hpx : pureAll xs = true := by unfold FM.pure at hp; exact hp
  have hl' : lk ([] :: s) f n = some (.lst xs) := by rw [lk_push (lk_lt hl)]; exact hl
  have hr : res ([] :: s) 8 (.ref f n) = some (.lst xs) := by
    unfold res
    rw [if_neg (by simp [FM.pure])]
    simp only [hl', mapM_res_pure hpx]
    rfl
  have e1 : opEq ([] :: s) (.lst xs) (.ref f n) = some (.bl true) := by
    have := opEq_refl (s := [] :: s) hp (by have := h.dep; omega)
    unfold opEq at this ⊢
    simp only [res_pure hp, hr] at this ⊢
    exact this
  have e2 := FT.OkV.repr h hb (by omega) ([] :: s)
  have e3 : bRepr ([] :: s) [.ref f n] = some (.str (toD (.lst xs)).shown) := by
    simp only [bRepr, hr]
    simp only [bRepr, res_pure hp] at e2
    exact e2
  generalize (toD (.lst xs)).shown = Z at *
  refine mk_same rfl ?_
  unfold b_law_alike
  walk_at "my wp0"; walk_at "my wp"
  refine opt_of e1 ?_
  walk_at "my wp"; walk_at "my wpT"
  walk_at "my wp"
  refine opt_of e2 ?_
  walk_at "my wp"
  refine opt_of e3 ?_
  walk_at "my wp"
  simp only [decide_true]
  exact retOf_pure rfl
def eoL (cs : List CallT) (i : Nat) : List Nat := byB cs (aheadL cs i) ++ i :: byB cs (restL cs i (aheadL cs i))
def loL (cs : List CallT) (i : Nat) : List Nat := byB cs (lateL cs i) ++ i :: byB cs (restL cs i (lateL cs i))
theorem aheadL_lt {cs : List CallT} {i : Nat} : ∀ j ∈ aheadL cs i, j < cs.length := fun j hj => (mem_aheadL.mp hj).1
theorem lateL_lt {cs : List CallT} {i : Nat} : ∀ j ∈ lateL cs i, j < cs.length := fun j hj => (mem_lateL.mp hj).1
theorem eo_perm {cs : List CallT} (o : Ordd cs) {i : Nat} (hi : i < cs.length) : (eoL cs i).Perm (List.range cs.length) := order_perm hi aheadL_lt (List.Pairwise.filter _ List.nodup_range) fun z => by
  have := (mem_aheadL.mp z).2
  rw [ah_self o] at this; cases this
theorem lo_perm {cs : List CallT} {i : Nat} (hi : i < cs.length) : (loL cs i).Perm (List.range cs.length) := order_perm hi lateL_lt (List.Pairwise.filter _ List.nodup_range) fun z => (mem_lateL.mp z).2.1 rfl
theorem lot_step (N : Nat) {cs : List CallT} (hc : cs.length ≤ 50) {i : Nat} {l : List Nat} (hl : ∀ j ∈ l, j < cs.length) (hz : l.length ≤ cs.length) {fr : List Cell} {xs : List Val} (hx : xs.length < 1000) (x0 x1 x2 x3 x4 x5 x6 x8 x11 x12 x15 x16 x17 x18 : Option Val) {Nn : FM.Env → S → Prop} {T : Val → S → Prop}
    (k : ∀ a15, Nn [x0, x1, x2, x3, x4, x5, x6, some (.tup (cs.map CallT.V)), x8, some (.int (i : Int)), some (.lst (ni (othersL cs i))), x11, x12, some (.ref 0 fr.length), some (.lst (ni l)), a15, x16, x17, x18] [fr ++ [.lst (xs ++ [.tup (ni (byB cs l ++ i :: byB cs (restL cs i l)))])]]) :
    WS (l1_law N [x0, x1, x2, x3, x4, x5, x6, some (.tup (cs.map CallT.V)), x8, some (.int (i : Int)), some (.lst (ni (othersL cs i))), x11, x12, some (.ref 0 fr.length), some (.lst (ni l)), x15, x16, x17, x18] [fr ++ [.lst xs]]) Nn T := by
  have ho : ∀ j ∈ othersL cs i, j < cs.length := fun j hj => List.mem_range.mp (List.mem_filter.mp hj).1
  unfold l1_law
  walk_at "my wp"
  refine we_pick (fun (j : Nat) => .int (j : Int)) (fun j => !decide (j ∈ l)) (fun (j : Nat) => .int (j : Int)) (othersL cs i) rfl rfl (fun j hj => ?_) ?_
  · walk_at "my wp"
    refine opt_of (opNotIn_ni (l := l) rfl j) ?_
    walk_at "my wp"
    exact ⟨by trivial, by trivial, fun _ => by walk_at "my wp"; exact ⟨by trivial, by trivial⟩⟩
  rw [restW_eq]
  walk_at "my wp"
  refine we_append (s := []) (L := 0) (n := fr.length) rfl rfl (get_last _ _) (by omega) ?_
  walk_at "my wp"
  refine we_of (lawby_run N hl) ?_
  walk_at "my wp"
  have h1 := byB_len cs l
  have h2 := byB_len cs (restL cs i l)
  have h3 : (restL cs i l).length ≤ cs.length := fil_len _ _
  refine opt_addt (by rw [ni_len]; simp; omega) ?_
  walk_at "my wp"
  refine we_of (lawby_run N (l := restL cs i l) restL_lt) ?_
  walk_at "my wp"
  refine opt_addt (by rw [ni_len, List.length_append, ni_len]; simp; omega) ?_
  walk_at "my wp"
  refine ⟨by trivial, ?_⟩
  rw [set_last]
  have e : ni (byB cs l) ++ [.int (i : Int)] ++ ni (byB cs (restL cs i l)) = ni (byB cs l ++ i :: byB cs (restL cs i l)) := by
    rw [ni_app, List.append_assoc]; rfl
  rw [e]
  walk_at "my wp"
  exact k _
theorem turn_ix (N : Nat) {p : Int} {n : Nat} {cs : List CallT} (hc : cs.length ≤ 50) (o : Ordd cs) {i : Nat} (hi : i < cs.length) {fr : List Cell} (hb : HB [fr]) (x0 x1 x2 x3 x4 x5 x8 x10 x11 x12 x13 x14 x15 x16 x17 x18 : Option Val) {Nn : FM.Env → S → Prop} {T : Val → S → Prop}
    (k : ∀ a10 a11 a12 a13 a14 a15 a16 fr', HB [fr'] → Nn [x0, x1, x2, x3, x4, x5, some (whatV p n cs), some (.tup (cs.map CallT.V)), x8, some (.int (i : Int)), a10, a11, a12, a13, a14, a15, a16, x17, x18] [fr']) :
    WS (l2_law N [x0, x1, x2, x3, x4, x5, some (whatV p n cs), some (.tup (cs.map CallT.V)), x8, some (.int (i : Int)), x10, x11, x12, x13, x14, x15, x16, x17, x18] [fr]) Nn T := by
  have hc' : cs.length < 1000 := by omega
  have ho : ∀ j ∈ othersL cs i, j < cs.length := fun j hj => List.mem_range.mp (List.mem_filter.mp hj).1
  unfold l2_law
  walk_at "my wp"
  refine ⟨by omega, by rw [List.length_map]; omega, ?_⟩
  rw [List.length_map, Int.toNat_natCast]
  refine we_pick (fun (j : Nat) => .int (j : Int)) (fun j => decide (j ≠ i)) (fun (j : Nat) => .int (j : Int)) (List.range cs.length) (rg0 _) rfl (fun j hj => ?_) ?_
  · walk_at "my wp"
    rw [ne_cast]
    exact ⟨by trivial, by trivial, fun _ => by walk_at "my wp"; exact ⟨by trivial, by trivial⟩⟩
  walk_at "my wp"
  refine we_pick (fun (j : Nat) => .int (j : Int)) (fun j => ah cs j i) (fun (j : Nat) => .int (j : Int)) (othersL cs i) rfl rfl (fun j hj => ?_) ?_
  · walk_at "my wp"
    refine we_of (isahL_run N (ho j hj) hi) ?_
    walk_at "my wp"
    exact ⟨by trivial, by trivial, fun _ => by walk_at "my wp"; exact ⟨by trivial, by trivial⟩⟩
  rw [aheadW_eq o]
  walk_at "my wp"
  refine we_pick (fun (j : Nat) => .int (j : Int)) (fun j => !ah cs i j) (fun (j : Nat) => .int (j : Int)) (othersL cs i) rfl rfl (fun j hj => ?_) ?_
  · walk_at "my wp"
    refine we_of (isahL_run N hi (ho j hj)) ?_
    walk_at "my wp"
    exact ⟨by trivial, by trivial, fun _ => by walk_at "my wp"; exact ⟨by trivial, by trivial⟩⟩
  rw [lateW_eq]
  walk_at "my wp"
  have ea : (aheadL cs i).length ≤ cs.length := fil_len _ _
  have el : (lateL cs i).length ≤ cs.length := fil_len _ _
  refine ws_forC rfl ?_
  walk_at "my wp"
  refine lot_step N hc (l := aheadL cs i) aheadL_lt ea (xs := []) (by simp) _ _ _ _ _ _ _ _ _ _ _ _ _ _ (fun a15 => ?_)
  refine ws_forC rfl ?_
  walk_at "my wp"
  refine lot_step N hc (l := lateL cs i) lateL_lt el (xs := [.tup (ni (eoL cs i))]) (by simp) _ _ _ _ _ _ _ _ _ _ _ _ _ _ (fun a15 => ?_)
  refine ws_forN rfl ?_
  walk_at "my wp"
  refine we_of (early_run N hc' hi) ?_
  walk_at "my wp"
  refine we_of (late_run N hc' hi) ?_
  walk_at "my wp"
  have pe := eo_perm o hi
  have pl := lo_perm hi
  have l1 : (eoL cs i).length = cs.length := by rw [pe.length_eq, List.length_range]
  have l2 : (loL cs i).length = cs.length := by rw [pl.length_eq, List.length_range]
  have m1 : ∀ j ∈ eoL cs i, j < 10000 := fun j hj => by have := List.mem_range.mp (pe.mem_iff.mp hj); omega
  have m2 : ∀ j ∈ loL cs i, j < 10000 := fun j hj => by have := List.mem_range.mp (pl.mem_iff.mp hj); omega
  have ok : OkV 5000 2 (.lst [.tup (ni (eoL cs i)), .tup (ni (loL cs i))]) := okA_ni2 (m := 50) m1 m2 (by omega) (by omega) (by omega)
  have lk1 : lk [fr ++ [Cell.lst [.tup (ni (eoL cs i)), .tup (ni (loL cs i))]]] 0 fr.length = some (.lst [.tup (ni (eoL cs i)), .tup (ni (loL cs i))]) := get_last _ _
  refine we_of (alike_live N ok (by omega) (by omega) lk1) ?_
  walk_at "my wp"; walk_at "my wpF"
  walk_at "my wp"
  refine optR_of (asQ_top (s := []) rfl (get_last _ _)) ?_
  walk_at "my wp"
  refine we_pick (fun (z : List Nat) => .tup (ni z)) (fun _ => false) (fun _ => .int 1) [eoL cs i, loL cs i] rfl (still_of (asQ_top (s := []) rfl (get_last _ _))) (fun z hz => ?_) ?_
  · have key : m_law_is_order N [.tup (cs.map CallT.V), .tup (ni z)] [fr ++ [Cell.lst [.tup (ni (eoL cs i)), .tup (ni (loL cs i))]]] = .ok (.val (.bl true)) [fr ++ [Cell.lst [.tup (ni (eoL cs i)), .tup (ni (loL cs i))]]] := by
      simp only [List.mem_cons, List.not_mem_nil, or_false] at hz
      rcases hz with rfl | rfl
      · exact order_run N hc' pe (pair_order o (early_pair o i))
      · exact order_run N hc' pl (pair_order o (late_pair o i))
    walk_at "my wp"
    refine we_of key ?_
    walk_at "my wp"
    exact ⟨by trivial, by trivial, fun z => by cases z⟩
  walk_at "my wp"
  rw [List.filter_eq_nil_iff.mpr (fun _ _ => by simp)]
  refine ⟨fun z => absurd z (by rw [List.map_nil, veq_nil]; simp), fun _ => ?_⟩
  walk_at "my wp"
  exact k _ _ _ _ _ _ _ _ (hb_app hb _)
theorem cut_map {α β : Type} (f : α → β) (l : List α) (lo hi : Option Int) : cutL (l.map f) lo hi = (cutL l lo hi).map f := by
  unfold cutL
  rw [List.length_map, List.map_take, List.map_drop]
theorem cut_mem {α : Type} {l : List α} {lo hi : Option Int} {x : α} (h : x ∈ cutL l lo hi) : x ∈ l := List.mem_of_mem_drop (List.mem_of_mem_take h)
theorem one_fr1 {s : S} (h : HB s) (h1 : s.length = 1) : ∃ fr, s = [fr] := List.length_eq_one_iff.mp h1
/-- the turn over one history or plan -/
theorem turn_what (N : Nat) {p : Int} (hp : Pr p) {n : Nat} (hn : n < 100) {plan : Bool} {B : Int} (hB : B < 10000000000) {m : Nat} (hm : m ≤ 50) {cs : List CallT} (ok : WhatOk p n plan B m cs) {s : S} (hs : HB s) (h1 : s.length = 1) (x0 x2 x3 x4 x5 x7 x8 x9 x10 x11 x12 x13 x14 x15 x16 x17 x18 : Option Val) {Nn : FM.Env → S → Prop} {T : Val → S → Prop}
    (k : ∀ a7 a8 a9 a10 a11 a12 a13 a14 a15 a16 s', HB s' → s'.length = 1 → Nn [x0, some (.ref 0 0), x2, x3, x4, x5, some (whatV p n cs), a7, a8, a9, a10, a11, a12, a13, a14, a15, a16, x17, x18] s') :
    WS (l3_law N [x0, some (.ref 0 0), x2, x3, x4, x5, some (whatV p n cs), x7, x8, x9, x10, x11, x12, x13, x14, x15, x16, x17, x18] s) Nn T := by
  obtain ⟨Z, hZ⟩ : ∃ Z, ∀ s, bRepr s [whatV p n cs] = some (.str Z) := ⟨_, FT.OkV.repr (okV_what hp hn hB hm ok) (by decide) (by decide)⟩
  have hc : cs.length ≤ 50 := by have := ok.2; omega
  have o : Ordd cs := fun c hc e he => (ok.1 c hc).ord e he
  unfold l3_law
  walk_at "my wp"
  refine opt_of (hZ _) ?_
  walk_at "my wp"
  refine ⟨by omega, by rw [List.length_map]; omega, ?_⟩
  rw [List.length_map, Int.toNat_natCast]
  walk_at "my wp"
  refine we_draw0 (SB.refl hs) (mixed_d N hs (m := cs.length) (by omega)) ?_
  rintro _ s1 sb1 ⟨l, rfl, hl⟩
  have hlt : ∀ j ∈ l, j < cs.length := fun j hj => List.mem_range.mp (hl.mem_iff.mp hj)
  walk_at "my wp"
  have ec : cutL (ni l) none (some 6) = ni (cutL l none (some 6)) := cut_map _ _ _ _
  rw [ec]
  refine ws_forL (fun xs ρ st => ∃ (js : List Nat) (a9 a10 a11 a12 a13 a14 a15 a16 : Option Val), xs = ni js ∧ (∀ j ∈ js, j < cs.length) ∧ ρ = [x0, some (.ref 0 0), x2, x3, x4, x5, some (whatV p n cs), some (.tup (cs.map CallT.V)), some (.str Z), a9, a10, a11, a12, a13, a14, a15, a16, x17, x18] ∧ HB st ∧ st.length = 1) ?_ ?_ _ _ _ ⟨cutL l none (some 6), _, _, _, _, _, _, _, _, rfl, fun j hj => hlt j (cut_mem hj), rfl, sb1.hb, by rw [sb1.len]; exact h1⟩
  · rintro x xs ρ st ⟨js, a9, a10, a11, a12, a13, a14, a15, a16, e1, hj, rfl, hb, hl1⟩
    cases js with
    | nil => cases e1
    | cons i js =>
      injection e1 with e1 e2
      subst e1; subst e2
      obtain ⟨fr, rfl⟩ := List.length_eq_one_iff.mp hl1
      refine ⟨rfl, ?_⟩
      walk_at "my wp"
      refine turn_ix N hc o (hj i List.mem_cons_self) hb _ _ _ _ _ _ _ _ _ _ _ _ _ _ _ _ (fun b10 b11 b12 b13 b14 b15 b16 fr' hb' => ?_)
      exact ⟨js, _, _, _, _, _, _, _, _, rfl, fun j hj' => hj j (List.mem_cons_of_mem _ hj'), rfl, hb', rfl⟩
  · rintro ρ st ⟨js, a9, a10, a11, a12, a13, a14, a15, a16, e1, hj, rfl, hb, hl1⟩
    refine ⟨rfl, ?_⟩
    walk_at "my wp"
    refine opt_of (hZ _) ?_
    walk_at "my wp"
    refine ⟨fun z => absurd z (by simp), fun _ => ?_⟩
    walk_at "my wp"
    exact k _ _ _ _ _ _ _ _ _ _ _ hb hl1
theorem house2_d (N : Nat) {s : S} (h : HB s) : DrawF (m_law_house N) [.ref 0 0, .int 2] s (GV fun v => ∃ p n, v = hv p n ∧ Pr p ∧ n ≤ 2) := by
  refine mk_draw rfl h fun sb0 => ?_
  unfold b_law_house
  walk_at "my wp0"; walk_at "my wp"; walk_at "my wpF"
  walk_at "my wp"
  refine ⟨by decide, by decide, ?_⟩
  walk_at "my wp"
  refine we_draw sb0 (one_d N (h.push _) (X := .lst [.int 2, .int 3, .int 2, .int 5, .int 7]) (fun z => by cases z) rfl rfl (by simp) (by simp)) ?_
  rintro _ s1 sb1 ⟨pv, rfl, hx⟩
  walk_at "my wp"
  refine we_draw sb1 (one_d N (sb1.hb.push _) (X := .lst (rangeV 0 3)) (xs := [.int 0, .int 1, .int 2]) (fun z => by cases z) rfl rfl (by simp) (by simp)) ?_
  rintro _ s2 sb2 ⟨nv, rfl, hy⟩
  simp only [List.mem_cons, List.not_mem_nil, or_false] at hx hy
  obtain ⟨p, rfl, hp⟩ : ∃ p : Int, pv = Val.int p ∧ Pr p := by
    rcases hx with rfl | rfl | rfl | rfl | rfl
    · exact ⟨2, rfl, .inl rfl⟩
    · exact ⟨3, rfl, .inr (.inl rfl)⟩
    · exact ⟨2, rfl, .inl rfl⟩
    · exact ⟨5, rfl, .inr (.inr (.inl rfl))⟩
    · exact ⟨7, rfl, .inr (.inr (.inr rfl))⟩
  obtain ⟨n, rfl, hn⟩ : ∃ n : Nat, nv = Val.int (n : Int) ∧ n ≤ 2 := by
    rcases hy with rfl | rfl | rfl
    · exact ⟨0, rfl, by decide⟩
    · exact ⟨1, rfl, by decide⟩
    · exact ⟨2, rfl, by decide⟩
  walk_at "my wp"
  exact draw_end sb2 (pure_hv p n) ⟨p, n, rfl, hp, hn⟩
theorem turn_law (N : Nat) {s : S} (hs : HB s) (h1 : s.length = 1) (x0 x2 x3 x4 x5 x6 x7 x8 x9 x10 x11 x12 x13 x14 x15 x16 x17 x18 : Option Val) {Nn : FM.Env → S → Prop} {T : Val → S → Prop}
    (k : ∀ s' a3 a4 a5 a6 a7 a8 a9 a10 a11 a12 a13 a14 a15 a16, HB s' → s'.length = 1 → Nn [x0, some (.ref 0 0), x2, a3, a4, a5, a6, a7, a8, a9, a10, a11, a12, a13, a14, a15, a16, x17, x18] s') :
    WS (l4_law N [x0, some (.ref 0 0), x2, x3, x4, x5, x6, x7, x8, x9, x10, x11, x12, x13, x14, x15, x16, x17, x18] s) Nn T := by
  have sb0 := SB.refl hs
  unfold l4_law
  walk_at "my wp"
  refine we_draw0 sb0 (house2_d N hs) ?_
  rintro _ s1 sb1 ⟨_, rfl, p, n, rfl, hp, hn⟩
  walk_at "my wp"
  refine we_draw0 sb1 (one_i N sb1.hb [10, 10, 24] rfl (by simp) (by simp) 10 24 (by decide)) ?_
  rintro _ s2 sb2 ⟨_, rfl, m, rfl, m0, m1⟩
  obtain ⟨m, rfl⟩ := Int.eq_ofNat_of_zero_le (show 0 ≤ m by omega)
  walk_at "my wp"
  refine we_draw0 sb2 (some_d N hp (by omega) sb2.hb (most := m) (by omega) (by omega)) ?_
  rintro _ s3 sb3 ⟨_, rfl, cs1, rfl, ok1⟩
  walk_at "my wp"
  refine we_draw0 sb3 (one_i N sb3.hb [9, 20] rfl (by simp) (by simp) 9 20 (by decide)) ?_
  rintro _ s4 sb4 ⟨_, rfl, q, rfl, q0, q1⟩
  obtain ⟨q, rfl⟩ := Int.eq_ofNat_of_zero_le (show 0 ≤ q by omega)
  walk_at "my wp"
  refine we_draw0 sb4 (plan_d N hp (by omega) sb4.hb (most := q) (by omega) (by omega)) ?_
  rintro _ s5 sb5 ⟨_, rfl, cs3, rfl, ok3⟩
  walk_at "my wp"
  refine we_draw0 sb5 (far_d N sb5.hb (by omega) ok1) ?_
  rintro _ s6 sb6 ⟨_, rfl, hf, rfl, okf⟩
  walk_at "my wp"
  refine we_draw0 sb6 (far_d N sb6.hb (by omega) ok3) ?_
  rintro _ s7 sb7 ⟨_, rfl, pf, rfl, okg⟩
  walk_at "my wp"
  refine ws_forC rfl ?_
  walk_at "my wp"
  refine turn_what N hp (by omega) (by omega) (by omega) okf sb7.hb (by rw [sb7.len]; exact h1) _ _ _ _ _ _ _ _ _ _ _ _ _ _ _ _ _ (fun _ _ _ _ _ _ _ _ _ _ s8 hb8 hl8 => ?_)
  refine ws_forC rfl ?_
  walk_at "my wp"
  refine turn_what N hp (by omega) (by omega) (by omega) okg hb8 hl8 _ _ _ _ _ _ _ _ _ _ _ _ _ _ _ _ _ (fun _ _ _ _ _ _ _ _ _ _ s9 hb9 hl9 => ?_)
  refine ws_forN rfl ?_
  walk_at "my wp"
  exact k _ _ _ _ _ _ _ _ _ _ _ _ _ _ _ hb9 hl9
def fuel (ns : List Int) : Nat := 100
theorem law_true : ∀ ns : List Int, ns.length ≤ 63 → (∀ z ∈ ns, Builtin.Int.intBits z ≤ 1048576) → ∃ s', m_law (fuel ns) [.scr (ns.map Val.int)] [] = .ok (.val (.bl true)) s' := by
  intro ns hn _
  obtain ⟨b0, o0, hd⟩ := bag_start ns hn
  have h0 : HB [[bagC b0]] := ⟨b0, rfl, o0⟩
  have key : WE (m_law 100 [.scr (vi ns)] []) fun r _ => r = .val (.bl true) := by
    refine mk_we rfl ?_
    unfold b_law
    walk_at "my wp0"
    refine ws_cons ?_
    rw [hd _ rfl]
    show WS (sCons _ _ _ _) _ _
    walk_at "my wp"
    refine ⟨by omega, by omega, ?_⟩
    refine ws_forL (fun xs ρ st => ∃ a2 a3 a4 a5 a6 a7 a8 a9 a10 a11 a12 a13 a14 a15 a16 a17 a18, ρ = [some (.scr (vi ns)), some (.ref 0 0), a2, a3, a4, a5, a6, a7, a8, a9, a10, a11, a12, a13, a14, a15, a16, a17, a18] ∧ HB st ∧ st.length = 1) ?_ ?_ _ _ _ ⟨_, _, _, _, _, _, _, _, _, _, _, _, _, _, _, _, _, rfl, h0, rfl⟩
    · rintro x xs ρ st ⟨a2, a3, a4, a5, a6, a7, a8, a9, a10, a11, a12, a13, a14, a15, a16, a17, a18, rfl, hb, hl⟩
      refine ⟨rfl, ?_⟩
      walk_at "my wp"
      refine turn_law 100 hb hl _ _ _ _ _ _ _ _ _ _ _ _ _ _ _ _ _ _ (fun s' _ _ _ _ _ _ _ _ _ _ _ _ _ _ hb' hl' => ?_)
      exact ⟨_, _, _, _, _, _, _, _, _, _, _, _, _, _, _, _, _, rfl, hb', hl'⟩
    · rintro ρ st ⟨a2, a3, a4, a5, a6, a7, a8, a9, a10, a11, a12, a13, a14, a15, a16, a17, a18, rfl, hb, hl⟩
      refine ⟨rfl, ?_⟩
      walk_at "my wp"
      obtain ⟨fr, rfl⟩ := List.length_eq_one_iff.mp hl
      exact ⟨fr, [], rfl, _, retOf_bl _ _ _, rfl⟩
  obtain ⟨r, s', e, rfl⟩ := key
  exact ⟨s', e⟩
end FT


open PySem PySem.W PyProof.Rows
set_option maxHeartbeats 0 in
theorem PySem.Challenge.cw_freshtold_k09_early_and_late_orders_holds : PySem.Challenge.rw_freshtold_k09_early_and_late_orders.Holds := by
  w_on; o_law; k_head; (case hw => w_witness2)
  k_fill
  letI : FM.Tbl := ⟨[(42, "by_begins" ++ ".<locals>." ++ FM.lamN), (35, "behind_of" ++ ".<locals>." ++ FM.lamN), (28, "ahead_of" ++ ".<locals>." ++ FM.lamN)]⟩
  refine FM.walk_M (cs := [(46, 42), (39, 35), (32, 28)]) (l := PySem.Challenge.rw_freshtold_k09_early_and_late_orders) (n := 63) (k := 9) (x := "_law_script") (m := fun ns => FT.m_law (FT.fuel ns)) rfl (by decide) rfl ⟨rfl, by decide, by decide⟩ (fun w h Y => PySem.W.km_in_of Y) (fun w h Y => List.forall_mem_cons.mpr ⟨⟨PySem.W.km_tabs_of Y 42 (by decide), by kernel_rfl, PySem.W.codeHd_of_K (c := 46) (P := 42) (PySem.W.km_in_of Y) (by kernel_rfl)⟩, List.forall_mem_cons.mpr ⟨⟨PySem.W.km_tabs_of Y 35 (by decide), by kernel_rfl, PySem.W.codeHd_of_K (c := 39) (P := 35) (PySem.W.km_in_of Y) (by kernel_rfl)⟩, List.forall_mem_cons.mpr ⟨⟨PySem.W.km_tabs_of Y 28 (by decide), by kernel_rfl, PySem.W.codeHd_of_K (c := 32) (P := 28) (PySem.W.km_in_of Y) (by kernel_rfl)⟩, (fun _ z => nomatch z)⟩⟩⟩) (FM.told_by (T := [(42, "by_begins" ++ ".<locals>." ++ FM.lamN), (35, "behind_of" ++ ".<locals>." ++ FM.lamN), (28, "ahead_of" ++ ".<locals>." ++ FM.lamN)]) (cs := [(46, 42), (39, 35), (32, 28)]) (by decide +kernel)) ?F FT.law_true
  case F =>
    intro w mg fa h KX G hmg
    refine' FM.all_ex [(46, 42), (39, 35), (32, 28)] FT.fuel (FT.all_mk KX G hmg 46 42 (FM.mem_by (T := [(42, "by_begins" ++ ".<locals>." ++ FM.lamN), (35, "behind_of" ++ ".<locals>." ++ FM.lamN), (28, "ahead_of" ++ ".<locals>." ++ FM.lamN)]) (by decide +kernel)) (FM.one_by (T := [(42, "by_begins" ++ ".<locals>." ++ FM.lamN), (35, "behind_of" ++ ".<locals>." ++ FM.lamN), (28, "ahead_of" ++ ".<locals>." ++ FM.lamN)]) (by decide +kernel)) 39 35 (FM.mem_by (T := [(42, "by_begins" ++ ".<locals>." ++ FM.lamN), (35, "behind_of" ++ ".<locals>." ++ FM.lamN), (28, "ahead_of" ++ ".<locals>." ++ FM.lamN)]) (by decide +kernel)) (FM.one_by (T := [(42, "by_begins" ++ ".<locals>." ++ FM.lamN), (35, "behind_of" ++ ".<locals>." ++ FM.lamN), (28, "ahead_of" ++ ".<locals>." ++ FM.lamN)]) (by decide +kernel)) 32 28 (FM.mem_by (T := [(42, "by_begins" ++ ".<locals>." ++ FM.lamN), (35, "behind_of" ++ ".<locals>." ++ FM.lamN), (28, "ahead_of" ++ ".<locals>." ++ FM.lamN)]) (by decide +kernel)) (FM.one_by (T := [(42, "by_begins" ++ ".<locals>." ++ FM.lamN), (35, "behind_of" ++ ".<locals>." ++ FM.lamN), (28, "ahead_of" ++ ".<locals>." ++ FM.lamN)]) (by decide +kernel)) ?a_lot_of ?l_lot_of ?c_lot_of ?k_lot_of ?a_law_take ?l_law_take ?c_law_take ?k_law_take ?a_law_one ?l_law_one ?c_law_one ?k_law_one ?a_law_far ?l_law_far ?c_law_far ?k_law_far ?a_law_mixed ?l_law_mixed ?c_law_mixed ?k_law_mixed ?a_law_is_ahead ?l_law_is_ahead ?c_law_is_ahead ?k_law_is_ahead ?a_law_is_int ?l_law_is_int ?c_law_is_int ?k_law_is_int ?a_law_is_order ?l_law_is_order ?c_law_is_order ?k_law_is_order ?a_law_alike ?l_law_alike ?c_law_alike ?k_law_alike ?a_by_begins ?l_by_begins ?c_by_begins ?k_by_begins ?a_split_order ?l_split_order ?c_split_order ?k_split_order ?a_is_ahead ?l_is_ahead ?c_is_ahead ?k_is_ahead ?a_behind_of ?l_behind_of ?c_behind_of ?k_behind_of ?a_late_order ?l_late_order ?c_late_order ?k_late_order ?a_ahead_of ?l_ahead_of ?c_ahead_of ?k_ahead_of ?a_early_order ?l_early_order ?c_early_order ?k_early_order ?a_law_by_begins ?l_law_by_begins ?c_law_by_begins ?k_law_by_begins ?a_law_stretch ?l_law_stretch ?c_law_stretch ?k_law_stretch ?a_law_rest ?l_law_rest ?c_law_rest ?k_law_rest ?a_law_comes_to ?l_law_comes_to ?c_law_comes_to ?k_law_comes_to ?a_law_sum ?l_law_sum ?c_law_sum ?k_law_sum ?a_law_plus ?l_law_plus ?c_law_plus ?k_law_plus ?a_law_sums ?l_law_sums ?c_law_sums ?k_law_sums ?a_law_world ?l_law_world ?c_law_world ?k_law_world ?a_law_plan ?l_law_plan ?c_law_plan ?k_law_plan ?a_law_put ?l_law_put ?c_law_put ?k_law_put ?a_law_other_answer ?l_law_other_answer ?c_law_other_answer ?k_law_other_answer ?a_law_bent_history ?l_law_bent_history ?c_law_bent_history ?k_law_bent_history ?a_law_inverse ?l_law_inverse ?c_law_inverse ?k_law_inverse ?a_law_flat ?l_law_flat ?c_law_flat ?k_law_flat ?a_law_echelon ?l_law_echelon ?c_law_echelon ?k_law_echelon ?a_law_given ?l_law_given ?c_law_given ?k_law_given ?a_law_answer ?l_law_answer ?c_law_answer ?k_law_answer ?a_law_answers_by ?l_law_answers_by ?c_law_answers_by ?k_law_answers_by ?a_law_deed ?l_law_deed ?c_law_deed ?k_law_deed ?a_law_history ?l_law_history ?c_law_history ?k_law_history ?a_law_some_history ?l_law_some_history ?c_law_some_history ?k_law_some_history ?a_law_house ?l_law_house ?c_law_house ?k_law_house ?a_law_bag ?l_law_bag ?c_law_bag ?k_law_bag ?a_law ?l_law ?c_law ?k_law ?zabs ?zbool ?zenumerate ?zint ?zisinstance ?zlen ?zlist ?zrange ?zrepr ?zsorted ?zsum ?ztuple ?zzip)
    (case a_lot_of => k_is); (case l_lot_of => k_is); (case c_lot_of => k_is); (case k_lot_of => k_is); (case a_law_take => k_is); (case l_law_take => k_is); (case c_law_take => k_is); (case k_law_take => k_is); (case a_law_one => k_is); (case l_law_one => k_is); (case c_law_one => k_is); (case k_law_one => k_is); (case a_law_far => k_is); (case l_law_far => k_is); (case c_law_far => k_is); (case k_law_far => k_is); (case a_law_mixed => k_is); (case l_law_mixed => k_is); (case c_law_mixed => k_is); (case k_law_mixed => k_is); (case a_law_is_ahead => k_is); (case l_law_is_ahead => k_is); (case c_law_is_ahead => k_is); (case k_law_is_ahead => k_is); (case a_law_is_int => k_is); (case l_law_is_int => k_is); (case c_law_is_int => k_is); (case k_law_is_int => k_is); (case a_law_is_order => k_is); (case l_law_is_order => k_is); (case c_law_is_order => k_is); (case k_law_is_order => k_is); (case a_law_alike => k_is); (case l_law_alike => k_is); (case c_law_alike => k_is); (case k_law_alike => k_is); (case a_by_begins => k_is); (case l_by_begins => k_is); (case c_by_begins => k_is); (case k_by_begins => k_is); (case a_split_order => k_is); (case l_split_order => k_is); (case c_split_order => k_is); (case k_split_order => k_is); (case a_is_ahead => k_is); (case l_is_ahead => k_is); (case c_is_ahead => k_is); (case k_is_ahead => k_is); (case a_behind_of => k_is); (case l_behind_of => k_is); (case c_behind_of => k_is); (case k_behind_of => k_is); (case a_late_order => k_is); (case l_late_order => k_is); (case c_late_order => k_is); (case k_late_order => k_is); (case a_ahead_of => k_is); (case l_ahead_of => k_is); (case c_ahead_of => k_is); (case k_ahead_of => k_is); (case a_early_order => k_is); (case l_early_order => k_is); (case c_early_order => k_is); (case k_early_order => k_is); (case a_law_by_begins => k_is); (case l_law_by_begins => k_is); (case c_law_by_begins => k_is); (case k_law_by_begins => k_is); (case a_law_stretch => k_is); (case l_law_stretch => k_is); (case c_law_stretch => k_is); (case k_law_stretch => k_is); (case a_law_rest => k_is); (case l_law_rest => k_is); (case c_law_rest => k_is); (case k_law_rest => k_is); (case a_law_comes_to => k_is); (case l_law_comes_to => k_is); (case c_law_comes_to => k_is); (case k_law_comes_to => k_is); (case a_law_sum => k_is); (case l_law_sum => k_is); (case c_law_sum => k_is); (case k_law_sum => k_is); (case a_law_plus => k_is); (case l_law_plus => k_is); (case c_law_plus => k_is); (case k_law_plus => k_is); (case a_law_sums => k_is); (case l_law_sums => k_is); (case c_law_sums => k_is); (case k_law_sums => k_is); (case a_law_world => k_is); (case l_law_world => k_is); (case c_law_world => k_is); (case k_law_world => k_is); (case a_law_plan => k_is); (case l_law_plan => k_is); (case c_law_plan => k_is); (case k_law_plan => k_is); (case a_law_put => k_is); (case l_law_put => k_is); (case c_law_put => k_is); (case k_law_put => k_is); (case a_law_other_answer => k_is); (case l_law_other_answer => k_is); (case c_law_other_answer => k_is); (case k_law_other_answer => k_is); (case a_law_bent_history => k_is); (case l_law_bent_history => k_is); (case c_law_bent_history => k_is); (case k_law_bent_history => k_is); (case a_law_inverse => k_is); (case l_law_inverse => k_is); (case c_law_inverse => k_is); (case k_law_inverse => k_is); (case a_law_flat => k_is); (case l_law_flat => k_is); (case c_law_flat => k_is); (case k_law_flat => k_is); (case a_law_echelon => k_is); (case l_law_echelon => k_is); (case c_law_echelon => k_is); (case k_law_echelon => k_is); (case a_law_given => k_is); (case l_law_given => k_is); (case c_law_given => k_is); (case k_law_given => k_is); (case a_law_answer => k_is); (case l_law_answer => k_is); (case c_law_answer => k_is); (case k_law_answer => k_is); (case a_law_answers_by => k_is); (case l_law_answers_by => k_is); (case c_law_answers_by => k_is); (case k_law_answers_by => k_is); (case a_law_deed => k_is); (case l_law_deed => k_is); (case c_law_deed => k_is); (case k_law_deed => k_is); (case a_law_history => k_is); (case l_law_history => k_is); (case c_law_history => k_is); (case k_law_history => k_is); (case a_law_some_history => k_is); (case l_law_some_history => k_is); (case c_law_some_history => k_is); (case k_law_some_history => k_is); (case a_law_house => k_is); (case l_law_house => k_is); (case c_law_house => k_is); (case k_law_house => k_is); (case a_law_bag => k_is); (case l_law_bag => k_is); (case c_law_bag => k_is); (case k_law_bag => k_is); (case a_law => k_is); (case l_law => k_is); (case c_law => k_is); (case k_law => k_is); (case zabs => k_is); (case zbool => k_is); (case zenumerate => k_is); (case zint => k_is); (case zisinstance => k_is); (case zlen => k_is); (case zlist => k_is); (case zrange => k_is); (case zrepr => k_is); (case zsorted => k_is); (case zsum => k_is); (case ztuple => k_is); (case zzip => k_is)
