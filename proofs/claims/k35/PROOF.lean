import PyProof.Rows.All
import HandS.ForMost
import KE.DataEq
import KE.DataFind
import KE.SortData
import KE.SortKeyHeap
import HandS.TupAny
import HandS.TupMul
import HandS.TupLe
import HandS.Flt
import KE.GoesNew
import KE.GoesRev
import HandS.Conv
import KE.KeyNested
import HandS.Lambda
import HandS.Star
import HandS.Zip
import HandS.Style
import HandS.IsInst
import KE.KTupSum
import PyProof.SeqIndex
import PyProof.Rows.FactsN_isinstance
import PyProof.Rows.SeqCalls
import HandS.SortKw
import HandS.SetFor
import HandS.Set
import HandS.Defaults
import HandS.Ends
import HandS.HeadHook2
import HandS.HeadHook4
import HandS.EndTab
import PySem.Challenge.RW_floorkeepers_k35_blocks_and_normal_order
import HandS.Head0
import HandS.Head1
import HandS.Head2
import HandS.HeadEnd
set_option Elab.async false
set_option linter.all false
set_option maxRecDepth 100000
set_option maxHeartbeats 4000000
/-! FkA: what a small part of Python computes, by values (no heap): an env of slots, each slot a frozen datum or a list of one's own. -/
namespace FK
open PySem

abbrev D := PyData
/-- a slot's value: a datum that nobody changes any more; a list that only this slot holds -/
inductive Val where
  | fz (d : D)
  | ow (ds : List D)
  /-- a dict that only this slot holds -/
  | od (kvs : List (D × D))
def Val.data : Val → D
  | .fz d => d
  | .ow ds => .list ds
  | .od kvs => .dict kvs
/-- what is one's own -/
inductive Own where
  | lst (ds : List D)
  | dic (kvs : List (D × D))
def Own.data : Own → D
  | .lst ds => .list ds
  | .dic kvs => .dict kvs
def Own.val : Own → Val
  | .lst ds => .ow ds
  | .dic kvs => .od kvs
def Val.own : Val → Option Own
  | .fz _ => none
  | .ow ds => some (.lst ds)
  | .od kvs => some (.dic kvs)
abbrev Rho := List (Option Val)
/-- how a run ends: with a value; with an exception of the class c; not told -/
inductive R (α : Type) where
  | ok (a : α) (ρ : Rho)
  | exc (c : Str) (ds : List D) (ρ : Rho)
  | bad
abbrev M (α : Type) := Rho → R α
def ret {α : Type} (a : α) : M α := fun ρ => .ok a ρ
def stop {α : Type} : M α := fun _ => .bad
def bnd {α β : Type} (m : M α) (k : α → M β) : M β := fun ρ =>
  match m ρ with
  | .ok a ρ' => k a ρ'
  | .exc c ds ρ' => .exc c ds ρ'
  | .bad => .bad
def lift {α : Type} : Option α → M α
  | some a => ret a
  | none => stop
theorem bnd_ok {α β : Type} {m : M α} {k : α → M β} {ρ ρ' : Rho} {a : α} (h : m ρ = .ok a ρ') : bnd m k ρ = k a ρ' := by
  unfold bnd; rw [h]
@[simp] theorem bnd_ret {α β : Type} (a : α) (k : α → M β) : bnd (ret a) k = k a := rfl

/-! ### expressions -/
def mC (d : D) : M Val := ret (.fz d)
/-- a name as a value: a list of one's own is frozen by it -/
def mV (i : Nat) : M Val := fun ρ =>
  match ρ[i]? with
  | some (some (.fz d)) => .ok (.fz d) ρ
  | some (some (.ow ds)) => .ok (.fz (.list ds)) (ρ.set i (some (.fz (.list ds))))
  | some (some (.od kvs)) => .ok (.fz (.dict kvs)) (ρ.set i (some (.fz (.dict kvs))))
  | _ => .bad
/-- a name that is only looked at -/
def peek (i : Nat) : M D := fun ρ =>
  match ρ[i]? with
  | some (some v) => .ok v.data ρ
  | _ => .bad
/-- an operand -/
inductive Opd where
  | nm (i : Nat)
  | ex (m : M Val)
def Opd.run : Opd → M (Option D)
  | .nm i => bnd (peek i) fun _ => ret none
  | .ex m => bnd m fun v => ret (some v.data)
def Opd.get : Opd → Option D → M D
  | .nm i, _ => peek i
  | .ex _, some d => ret d
  | .ex _, none => stop
def mUn (op : D → Option Val) (a : Opd) : M Val := bnd a.run fun x => bnd (a.get x) fun d => lift (op d)
def mBin (op : D → D → Option Val) (a b : Opd) : M Val :=
  bnd a.run fun x => bnd b.run fun y => bnd (a.get x) fun d => bnd (b.get y) fun e => lift (op d e)
def runs : List Opd → M (List (Option D))
  | [] => ret []
  | a :: as => bnd a.run fun x => bnd (runs as) fun xs => ret (x :: xs)
def gets : List Opd → List (Option D) → M (List D)
  | [], _ => ret []
  | a :: as, x :: xs => bnd (a.get x) fun d => bnd (gets as xs) fun ds => ret (d :: ds)
  | _ :: _, [] => stop
/-- a built-in of several operands -/
def mFn (op : List D → Option Val) (as : List Opd) : M Val := bnd (runs as) fun xs => bnd (gets as xs) fun ds => lift (op ds)
/-- the items of a display, the second letter: whether it is starred -/
def seqOf : D → Option (List D)
  | .list ds => some ds
  | .tuple ds => some ds
  | _ => none
def mItems : List (Bool × M Val) → M (List D)
  | [] => ret []
  | (false, m) :: es => bnd m fun v => bnd (mItems es) fun ds => ret (v.data :: ds)
  | (true, m) :: es => bnd m fun v => bnd (lift (seqOf v.data)) fun xs => bnd (mItems es) fun ds => ret (xs ++ ds)
def szOk {α : Type} (ds : List α) : Bool := decide (ds.length ≤ 16777216)
def mTup (es : List (Bool × M Val)) : M Val := bnd (mItems es) fun ds => if szOk ds then ret (.fz (.tuple ds)) else stop
def mLst (es : List (Bool × M Val)) : M Val := bnd (mItems es) fun ds => if szOk ds then ret (.ow ds) else stop
/-- tests -/
def truth : D → Option Bool
  | .none => some false
  | .bool b => some b
  | .int i => some (i != 0)
  | .list xs => some (!xs.isEmpty)
  | .tuple xs => some (!xs.isEmpty)
  | _ => none
def mT (a : Opd) : M Bool := bnd a.run fun x => bnd (a.get x) fun d => lift (truth d)
def mNot (c : M Bool) : M Bool := bnd c fun b => ret (!b)
def mAnd (c e : M Bool) : M Bool := bnd c fun b => if b then e else ret false
def mOr (c e : M Bool) : M Bool := bnd c fun b => if b then ret true else e
def asBool : D → Option Bool
  | .bool b => some b
  | _ => none
def mBl (c : M Val) : M Bool := bnd c fun v => lift (asBool v.data)
/-- and, or as values, the first one a bool -/
def mAndV (a b : M Val) : M Val := bnd (mBl a) fun x => if x then b else ret (.fz (.bool false))
def mOrV (a b : M Val) : M Val := bnd (mBl a) fun x => if x then ret (.fz (.bool true)) else b
def mNotV (c : M Bool) : M Val := bnd c fun b => ret (.fz (.bool (!b)))
def mIf (c : M Bool) (a b : M Val) : M Val := bnd c fun t => if t then a else b

/-! ### targets -/
inductive Tgt where
  | nm (i : Nat)
  | tup (ts : List Tgt)
mutual
def Tgt.slots : Tgt → List Nat
  | .nm i => [i]
  | .tup ts => Tgt.slotsAll ts
def Tgt.slotsAll : List Tgt → List Nat
  | [] => []
  | t :: ts => t.slots ++ Tgt.slotsAll ts
end
def setS (i : Nat) (v : Val) : M Unit := fun ρ => if i < ρ.length then .ok () (ρ.set i (some v)) else .bad
mutual
def Tgt.put : Tgt → D → M Unit
  | .nm i, d => setS i (.fz d)
  | .tup ts, .tuple ds => if ds.length = ts.length then Tgt.putAll ts ds else stop
  | .tup _, _ => stop
def Tgt.putAll : List Tgt → List D → M Unit
  | [], [] => ret ()
  | t :: ts, d :: ds => bnd (t.put d) fun _ => Tgt.putAll ts ds
  | _, _ => stop
end

/-! ### comprehensions -/
def wipeR (ρ : Rho) : List Nat → Rho
  | [] => ρ
  | v :: vs => (wipeR ρ vs).set v none
/-- the slots at vs as they stood in ρ, all others as in ρ' -/
def restore (ρ ρ' : Rho) : List Nat → Rho
  | [] => ρ'
  | v :: vs => (restore ρ ρ' vs).set v (ρ[v]?.getD none)
def isOw : Option (Option Val) → Bool
  | some (some (.ow _)) => true
  | _ => false
def isOwn : Option (Option Val) → Bool
  | some (some v) => v.own.isSome
  | _ => false
def noOw (ρ : Rho) (vs : List Nat) : Bool := vs.all fun v => !isOwn ρ[v]?
def wipeM (vs : List Nat) : M Unit := fun ρ => .ok () (wipeR ρ vs)
def mYes : M Bool := ret true
def compL (t : Tgt) (c : M Bool) (e : M Val) (vs : List Nat) : List D → M (List D)
  | [] => ret []
  | d :: ds => bnd (t.put d) fun _ => bnd c fun b => bnd (if b then bnd e fun v => ret [v.data] else ret []) fun o => bnd (wipeM vs) fun _ => bnd (compL t c e vs ds) fun r => ret (o ++ r)
def mComp (vs : List Nat) (it : M (List D)) (t : Tgt) (c : M Bool) (e : M Val) : M Val := bnd it fun ds ρ =>
  if noOw ρ vs then
    match compL t c e vs ds (wipeR ρ vs) with
    | .ok r ρ' => .ok (.ow r) (restore ρ ρ' vs)
    | _ => .bad
  else .bad

/-! ### what is walked -/
def itSeq (m : M Val) : M (List D) := bnd m fun v => lift (seqOf v.data)
def small (i : Int) : Bool := decide (-1000000 ≤ i ∧ i ≤ 1000000)
def rng (a c : Int) (n : Nat) : List D := (List.range n).map fun (k : Nat) => .int (a + (k : Int) * c)
def rngOf : List D → Option (List D)
  | [.int n] => if small n then some (rng 0 1 n.toNat) else none
  | [.int a, .int b] => if small a && small b then some (rng a 1 (b - a).toNat) else none
  | [.int a, .int b, .int c] => if small a && small b && decide (c = -1) then some (rng a (-1) (a - b).toNat) else none
  | _ => none
def itRng (as : List Opd) : M (List D) := bnd (runs as) fun xs => bnd (gets as xs) fun ds => lift (rngOf ds)
def enumL : Int → List D → List D
  | _, [] => []
  | k, d :: ds => .tuple [.int k, d] :: enumL (k + 1) ds
def itEnum (m : M Val) : M (List D) := bnd m fun v => bnd (lift (seqOf v.data)) fun ds => ret (enumL 0 ds)
def zipL : List D → List D → List D
  | x :: xs, y :: ys => .tuple [x, y] :: zipL xs ys
  | _, _ => []
def itZip (m n : M Val) : M (List D) := bnd m fun v => bnd n fun u => bnd (lift (seqOf v.data)) fun xs => bnd (lift (seqOf u.data)) fun ys => ret (zipL xs ys)

/-- over a list of one's own: it waits meanwhile -/
def mCompB (i : Nat) (en : Bool) (vs : List Nat) (t : Tgt) (c : M Bool) (e : M Val) : M Val := fun ρ =>
  match ρ[i]? with
  | some (some (.ow ds)) => match mComp vs (ret (if en then enumL 0 ds else ds)) t c e (ρ.set i none) with
    | .ok v ρ' => .ok v (ρ'.set i (some (.ow ds)))
    | _ => .bad
  | _ => .bad

/-! ### defs -/
/-- how a def ends: its value, and the list that was handed in to be changed -/
inductive FR where
  | ok (v : Val) (o : Option (List D))
  | exc (c : Str) (ds : List D) (o : Option (List D))
  | bad
abbrev Fn := List Val → FR
structure FnE where
  f : Fn
  np : Nat
  br : Bool
/-- f(..), nothing handed in to be changed -/
def mCall (fe : FnE) (es : List (Bool × M Val)) : M Val := bnd (mItems es) fun ds ρ =>
  if ds.length = fe.np then match fe.f (ds.map .fz) with
    | .ok v _ => .ok v ρ
    | _ => .bad
  else .bad
/-- the slot holds a list of one's own -/
def chk (i : Nat) : M Unit := fun ρ => if isOw ρ[i]? then .ok () ρ else .bad
/-- f(x, ..), the list at slot i handed in to be changed -/
def mCallR (fe : FnE) (i : Nat) (es : List (Bool × M Val)) : M Val := bnd (chk i) fun _ => bnd (mItems es) fun ds ρ =>
  if ds.length + 1 = fe.np then match ρ[i]? with
    | some (some (.ow bs)) => match fe.f (.ow bs :: ds.map .fz) with
      | .ok v (some bs') => .ok v (ρ.set i (some (.ow bs')))
      | _ => .bad
    | _ => .bad
  else .bad

/-! ### statements -/
inductive Fl where
  | nx | bk | ct
  | rt (v : Val)
abbrev MS := M Fl
def sNx : MS := ret .nx
def sSeq (a b : MS) : MS := bnd a fun f => match f with
  | .nx => b
  | f => ret f
def sSet (i : Nat) (m : M Val) : MS := bnd m fun v => bnd (setS i v) fun _ => ret .nx
def sPut (t : Tgt) (m : M Val) : MS := bnd m fun v => bnd (t.put v.data) fun _ => ret .nx
/-- several values ahead of their stores -/
def temps : List (M Val) → M (List Val)
  | [] => ret []
  | m :: ms => bnd m fun v => bnd (temps ms) fun vs => ret (v :: vs)
def setAll : List Nat → List Val → M Unit
  | [], [] => ret ()
  | i :: is, v :: vs => bnd (setS i v) fun _ => setAll is vs
  | _, _ => stop
def sPar (is : List Nat) (ms : List (M Val)) : MS := bnd (temps ms) fun vs => bnd (setAll is vs) fun _ => ret .nx
def sDrop (m : M Val) : MS := bnd m fun _ => ret .nx
def sRet (m : M Val) : MS := bnd m fun v => ret (.rt v)
/-- return x, x a slot of the def's own: a list goes to the caller -/
def mMove (i : Nat) : M Val := fun ρ =>
  match ρ[i]? with
  | some (some v) => .ok v ρ
  | _ => .bad
def sIf (c : M Bool) (a b : MS) : MS := bnd c fun t => if t then a else b
def forL (t : Tgt) (b : MS) : List D → MS
  | [] => ret .nx
  | d :: ds => bnd (t.put d) fun _ => bnd b fun f => match f with
    | .nx => forL t b ds
    | .ct => forL t b ds
    | .bk => ret .nx
    | .rt v => ret (.rt v)
def sFor (it : M (List D)) (t : Tgt) (b : MS) : MS := bnd it fun ds => forL t b ds
def whileL (c : M Bool) (b : MS) : Nat → MS
  | 0 => stop
  | n + 1 => bnd c fun t => if t then bnd b fun f => match f with
    | .nx => whileL c b n
    | .ct => whileL c b n
    | .bk => ret .nx
    | .rt v => ret (.rt v) else ret .nx
/-- a change of the list at slot i -/
def chg {α : Type} (i : Nat) (f : List D → Option (α × List D)) : M α := fun ρ =>
  match ρ[i]? with
  | some (some (.ow ds)) => match f ds with
    | some (a, es) => .ok a (ρ.set i (some (.ow es)))
    | none => .bad
  | _ => .bad
def ixD (n : Nat) (i : Int) : Option Nat := L2.ixN n i
def putAt (d k : D) (ds : List D) : Option (Unit × List D) :=
  match k with
  | .int i => (ixD ds.length i).map fun j => ((), ds.set j d)
  | _ => none
/-- x[e] = m -/
def sItem (i : Nat) (e m : M Val) : MS := bnd m fun v => bnd (chk i) fun _ => bnd e fun k => bnd (chg i (putAt v.data k.data)) fun _ => ret .nx
def appD (d : D) (ds : List D) : Option (Unit × List D) := if ds.length < 16777216 then some ((), ds ++ [d]) else none
def sApp (i : Nat) (m : M Val) : MS := bnd (chk i) fun _ => bnd m fun v => bnd (chg i (appD v.data)) fun _ => ret .nx
def insD (k d : D) (ds : List D) : Option (Unit × List D) :=
  match k with
  | .int j => if 0 ≤ j ∧ j ≤ 1000000 ∧ ds.length < 16777216 then some ((), ds.take j.toNat ++ d :: ds.drop j.toNat) else none
  | _ => none
def sIns (i : Nat) (k m : M Val) : MS := bnd (chk i) fun _ => bnd k fun j => bnd m fun v => bnd (chg i (insD j.data v.data)) fun _ => ret .nx
/-- x op= e, x an int -/
def sAug (i : Nat) (op : Int → Int → Int) (m : M Val) : MS := fun ρ =>
  match ρ[i]? with
  | some (some (.fz (.int a))) => (bnd m fun v => match v.data with
    | .int b => bnd (setS i (.fz (.int (op a b)))) fun _ => ret .nx
    | _ => stop) ρ
  | _ => .bad
def getAt (k : Int) (ds : List D) : Option D := (ixD ds.length k).bind (ds[·]?)
/-- x[k] op= e, the item an int -/
def sAugI (i : Nat) (op : Int → Int → Int) (k m : M Val) : MS := bnd (chk i) fun _ => bnd k fun j => fun ρ =>
  match ρ[i]? with
  | some (some (.ow ds)) => match j.data with
    | .int n => match getAt n ds with
      | some (.int a) => (bnd m fun v => match v.data with
        | .int b => bnd (chg i (putAt (.int (op a b)) (.int n))) fun _ => ret .nx
        | _ => stop) ρ
      | _ => .bad
    | _ => .bad
  | _ => .bad

/-- the list handed in, as it is at the end -/
def out0 : List Val → Rho → Option (Option (List D))
  | .ow _ :: _, some (.ow es) :: _ => some (some es)
  | .ow _ :: _, _ => none
  | _, _ => some none
/-- a def by its body: N slots in all -/
def fnOf (N : Nat) (b : MS) : Fn := fun vs =>
  match b (vs.map some ++ List.replicate (N - vs.length) none) with
  | .ok f ρ => match out0 vs ρ with
    | some o => match f with
      | .rt v => .ok v o
      | .nx => .ok (.fz .none) o
      | _ => .bad
    | none => .bad
  | .exc c ds ρ => match out0 vs ρ with
    | some o => .exc c ds o
    | none => .bad
  | .bad => .bad
/-! ### operations -/
def intIn (i : Int) : Bool := decide (-(2 ^ 64) < i ∧ i < 2 ^ 64)
def oAdd : D → D → Option Val
  | .int a, .int b => some (.fz (.int (a + b)))
  | .tuple a, .tuple b => if a.length + b.length ≤ 16777216 then some (.fz (.tuple (a ++ b))) else none
  | .list a, .list b => if a.length + b.length ≤ 16777216 then some (.ow (a ++ b)) else none
  | _, _ => none
def oSub : D → D → Option Val
  | .int a, .int b => some (.fz (.int (a - b)))
  | _, _ => none
def oMul : D → D → Option Val
  | .int a, .int b => if intIn a || intIn b then some (.fz (.int (a * b))) else none
  | .tuple a, .int k => if 0 ≤ k ∧ k ≤ 1000 ∧ a.length ≤ 1000 then some (.fz (.tuple (List.replicate k.toNat a).flatten)) else none
  | .list a, .int k => if small k && decide (a.length * k.toNat ≤ 16777216) then some (.ow (List.replicate k.toNat a).flatten) else none
  | _, _ => none
def oMod : D → D → Option Val
  | .int a, .int b => if 0 < b then some (.fz (.int (a % b))) else none
  | _, _ => none
def oFdiv : D → D → Option Val
  | .int a, .int b => if 0 < b ∧ b < 1073741824 then some (.fz (.int (a / b))) else none
  | _, _ => none
def oPow : D → D → Option Val
  | .int a, .int b => if 0 ≤ b ∧ b ≤ 1000 ∧ intIn a then some (.fz (.int (a ^ b.toNat))) else none
  | _, _ => none
def oNeg : D → Option Val
  | .int a => some (.fz (.int (-a)))
  | _ => none
def oCmp (p : Int → Int → Bool) : D → D → Option Val
  | .int a, .int b => some (.fz (.bool (p a b)))
  | _, _ => none
def oLt := oCmp fun a b => decide (a < b)
def oLe := oCmp fun a b => decide (a ≤ b)
def oGt := oCmp fun a b => decide (b < a)
def oGe := oCmp fun a b => decide (b ≤ a)
def cmpOk (a b : D) : Bool := a.plain && b.plain && decide (min a.depth b.depth ≤ 64)
def eqD (a b : D) : Option Bool :=
  match a, b with
  | .int i, .int j => some (decide (i = j))
  | a, b => if cmpOk a b = true then some (PyData.eqv a b) else none
def oEq (a b : D) : Option Val := (eqD a b).map fun k => .fz (.bool k)
def oNe (a b : D) : Option Val := (eqD a b).map fun k => .fz (.bool (!k))
def isNon : D → Bool
  | .none => true
  | _ => false
def oIs : D → D → Option Val
  | a, .none => some (.fz (.bool (isNon a)))
  | _, _ => none
def oIsNot : D → D → Option Val
  | a, .none => some (.fz (.bool (!isNon a)))
  | _, _ => none
def oIx : D → D → Option Val
  | .list xs, .int i => ((ixD xs.length i).bind (xs[·]?)).map .fz
  | .tuple xs, .int i => ((ixD xs.length i).bind (xs[·]?)).map .fz
  | _, _ => none
def cutD (xs : List D) (lo hi : Option Int) : List D := (xs.drop (HT.sIx xs.length 0 lo)).take (HT.sIx xs.length xs.length hi - HT.sIx xs.length 0 lo)
def partOf : Option D → Option (Option Int)
  | none => some none
  | some (.int i) => some (some i)
  | _ => none
def oSl (d : D) (lo hi : Option Int) : Option Val :=
  match d with
  | .list xs => some (.ow (cutD xs lo hi))
  | .tuple xs => some (.fz (.tuple (cutD xs lo hi)))
  | _ => none
def part : Option (M Val) → M (Option Int)
  | none => ret none
  | some m => bnd m fun v => match v.data with
    | .int i => ret (some i)
    | _ => stop
def mSl (a : Opd) (lo hi : Option (M Val)) : M Val := bnd a.run fun x => bnd (part lo) fun l => bnd (part hi) fun h => bnd (a.get x) fun d => lift (oSl d l h)
def oLen : List D → Option Val
  | [.list xs] => some (.fz (.int xs.length))
  | [.tuple xs] => some (.fz (.int xs.length))
  | _ => none
def oInt : List D → Option Val
  | [.int i] => some (.fz (.int i))
  | [.bool b] => some (.fz (.int (if b then 1 else 0)))
  | _ => none
def oAbs : List D → Option Val
  | [.int i] => some (.fz (.int (if i < 0 then -i else i)))
  | _ => none
def oMax : List D → Option Val
  | [.int i, .int j] => some (.fz (.int (max i j)))
  | [.int i, .int j, .int k] => some (.fz (.int (max (max i j) k)))
  | _ => none
def oMin : List D → Option Val
  | [.int i, .int j] => some (.fz (.int (min i j)))
  | [.int i, .int j, .int k] => some (.fz (.int (min (min i j) k)))
  | _ => none
def oTuple : List D → Option Val
  | [.list xs] => some (.fz (.tuple xs))
  | [.tuple xs] => some (.fz (.tuple xs))
  | _ => none
def oList : List D → Option Val
  | [.list xs] => some (.ow xs)
  | [.tuple xs] => some (.ow xs)
  | _ => none
def boolsOf : List D → Option (List Bool)
  | [] => some []
  | .bool b :: ds => (boolsOf ds).map (b :: ·)
  | _ => none
def oAny : List D → Option Val
  | [.list xs] => (boolsOf xs).map fun bs => .fz (.bool (bs.any id))
  | _ => none
def oAll : List D → Option Val
  | [.list xs] => (boolsOf xs).map fun bs => .fz (.bool (bs.all id))
  | _ => none
def reprOk (d : D) : Bool := d.plain && d.showable && decide (d.shown.length ≤ 16777216) && decide (d.depth ≤ 60)
def oRepr : List D → Option Val
  | [d] => if reprOk d then some (.fz (.str d.shown)) else none
  | _ => none
/-! ### looked for, counted, added, sorted -/
def inOk (xs : List D) (d : D) : Bool := PyData.plainAll xs && d.plain && decide (min (PyData.depthAll xs) d.depth ≤ 60)
def oIn : D → D → Option Val
  | d, .list xs => if inOk xs d = true then some (.fz (.bool (xs.any fun y => PyData.eqv y d))) else none
  | d, .tuple xs => if inOk xs d = true then some (.fz (.bool (xs.any fun y => PyData.eqv y d))) else none
  | _, _ => none
def oNotIn : D → D → Option Val
  | d, .list xs => if inOk xs d = true then some (.fz (.bool (!xs.any fun y => PyData.eqv y d))) else none
  | d, .tuple xs => if inOk xs d = true then some (.fz (.bool (!xs.any fun y => PyData.eqv y d))) else none
  | _, _ => none
/-- x.count(y), x.index(y) -/
def oCount : D → D → Option Val
  | .list xs, d => if inOk xs d = true then some (.fz (.int (xs.countP fun y => PyData.eqv y d : Nat))) else none
  | .tuple xs, d => if inOk xs d = true then some (.fz (.int (xs.countP fun y => PyData.eqv y d : Nat))) else none
  | _, _ => none
def intsOf : List D → Option (List Int)
  | [] => some []
  | .int i :: ds => (intsOf ds).map (i :: ·)
  | _ => none
/-- among ints -/
def placeI (xs : List D) (i : Int) : Option Val := (intsOf xs).bind fun is => if i ∈ is then some (.fz (.int (is.idxOf i : Nat))) else none
def oIndex : D → D → Option Val
  | .list xs, .int i => placeI xs i
  | .tuple xs, .int i => placeI xs i
  | _, _ => none
def oSum : List D → Option Val
  | [.list xs] => (intsOf xs).map fun is => .fz (.int is.sum)
  | [.tuple xs] => (intsOf xs).map fun is => .fz (.int is.sum)
  | _ => none
def isTupN : D → Bool
  | .tuple (_ :: _) => true
  | _ => false
def isAtm : D → Bool
  | .none => false
  | .tuple _ => false
  | _ => true
def sortOk (xs : List D) : Bool := xs.all (fun d => xs.all fun e => PySem.W.alike d e) && (xs.all isTupN || xs.all isAtm) && decide (PyData.depthAll xs ≤ 60)
def sortD (xs : List D) : List D := xs.mergeSort (PySem.W.dataLe false fun d => d)
def oSorted : List D → Option Val
  | [.list xs] => if sortOk xs then some (.ow (sortD xs)) else none
  | [.tuple xs] => if sortOk xs then some (.ow (sortD xs)) else none
  | _ => none
/-- sorted(set(..)) of ints -/
def insU (i : Int) : List Int → List Int
  | [] => [i]
  | j :: l => if i < j then i :: j :: l else if i = j then j :: l else j :: insU i l
def sortU (is : List Int) : List Int := is.foldr insU []
def oSortSet : D → Option Val
  | .list xs => (intsOf xs).bind fun is => if is.length ≤ 4000 then some (.ow ((sortU is).map .int)) else none
  | _ => none
/-- isinstance(d, T) -/
inductive Ty where
  | int | bool | str | tup | lst
def oInst (T : Ty) : D → Option Val
  | .int _ => some (.fz (.bool (match T with | .int => true | _ => false)))
  | .bool _ => some (.fz (.bool (match T with | .int => true | .bool => true | _ => false)))
  | .str _ => some (.fz (.bool (match T with | .str => true | _ => false)))
  | .tuple _ => some (.fz (.bool (match T with | .tup => true | _ => false)))
  | .list _ => some (.fz (.bool (match T with | .lst => true | _ => false)))
  | .none => some (.fz (.bool false))
  | _ => none
/-- a op b op' c -/
def mChain (f g : D → D → Option Val) (a b c : M Val) : M Val := bnd a fun x => bnd b fun y => bnd (lift ((f x.data y.data).bind fun v => asBool v.data)) fun k => if k then bnd c fun z => lift (g y.data z.data) else ret (.fz (.bool false))
/-- x.m(y): the receiver is looked at first, and again behind the operand -/
def seqK : D → Nat
  | .list _ => 0
  | .tuple _ => 1
  | _ => 2
def mMeth (f : D → D → Option Val) (a b : Opd) : M Val := bnd a.run fun x => bnd (a.get x) fun d0 => if seqK d0 = 2 then stop else bnd b.run fun y => bnd (a.get x) fun d => bnd (b.get y) fun e => if seqK d0 = seqK d then lift (f d e) else stop
/-- sorted(range(n), key=lambda t: (row[t], t)), the row a tuple of ints -/
def rowAt (xs : List D) (k : Nat) : Option Int := match xs[k]? with
  | some (.int i) => some i
  | _ => none
def rowLe (key : Int → Int) (a b : Int) : Bool := decide (key a < key b ∨ (key a = key b ∧ a ≤ b))
def oSortRow : D → D → Option Val
  | .tuple xs, .int n => if small n && (List.range n.toNat).all (fun k => (rowAt xs k).isSome) then some (.ow ((((List.range n.toNat).map fun (k : Nat) => (k : Int)).mergeSort (rowLe fun i => (rowAt xs i.toNat).getD 0)).map .int)) else none
  | _, _ => none
def mSortRow (r : Nat) (a : Opd) : M Val := bnd a.run fun x => bnd (a.get x) fun d => bnd (peek r) fun row => lift (oSortRow row d)
/-- x.extend(m), x.pop() -/
def extD (d : D) (ds : List D) : Option (Unit × List D) := (seqOf d).bind fun es => if ds.length + es.length ≤ 16777216 then some ((), ds ++ es) else none
def sExt (i : Nat) (m : M Val) : MS := bnd (chk i) fun _ => bnd m fun v => bnd (chg i (extD v.data)) fun _ => ret .nx
def popD (ds : List D) : Option (D × List D) := match ds.getLast? with
  | some d => some (d, ds.dropLast)
  | none => none
def mPop (i : Nat) : M Val := bnd (chk i) fun _ => bnd (chg i popD) fun d => ret (.fz d)
def popAtD (k : D) (ds : List D) : Option (D × List D) := match k with
  | .int i => if small i then (ixD ds.length i).bind fun j => (ds[j]?).map fun d => (d, ds.eraseIdx j) else none
  | _ => none
def mPopAt (i : Nat) (k : M Val) : M Val := bnd (chk i) fun _ => bnd k fun v => bnd (chg i (popAtD v.data)) fun d => ret (.fz d)
def lstRng (it : M (List D)) : M Val := bnd it fun ds => ret (.ow ds)
def tupRng (it : M (List D)) : M Val := bnd it fun ds => ret (.fz (.tuple ds))
end FK

/-! FkD0: rules of the machine that the hand layer lacks: lists of any kind added and repeated, tuples repeated, enumerate of anything, repr of data. -/
namespace FK
open PySem L2
section
theorem meets_listAdd (l : Addr) (is : Array Value) (n : Nat) (d : Option Addr) (sl : Array (Option Value)) (b : Addr) (js : Array Value) (k : Nat) (e : Option Addr) (tl : Array (Option Value)) (hz : is.size + js.size ≤ sizeLine) :
    Meets (Builtin.«list.__add__» ⟨[.ref l, .ref b], []⟩) (fun _ R s => s.heap.get? l = some { cls := .type "list", dict := d, data := .seq is n, slots := sl } ∧ s.heap.get? b = some { cls := .type "list", dict := e, data := .seq js k, slots := tl } ∧
      R (.ok (.ret (Value.ref s.heap.objs.size))) { s with heap := s.heap.push { cls := Value.type "list", data := Data.seq (is ++ js) }, toks := s.toks }) :=
  .of_wp fun prog w A R s h => by
    obtain ⟨hp, g, dr, tk, os⟩ := s
    obtain ⟨h1, h2, h3⟩ := h
    have x1 := AutoSeq1.idx_int
    have x3 := AutoSeq1.sub_list_list
    wp_walk using wpAny_loadPart' h1, wpAny_loadPart' h2
    exact ⟨_, rfl, h3⟩
theorem meets_rmulList (a : Int) (t : Tok) (l : Addr) (is : Array Value) (n : Nat) (d : Option Addr) (sl : Array (Option Value)) :
    Meets (Builtin.«int.__rmul__» ⟨[.int a t, .ref l], []⟩) (fun _ R s => s.heap.get? l = some { cls := .type "list", dict := d, data := .seq is n, slots := sl } ∧ R (.ok (.ret Value.notImplemented)) s) :=
  .of_wp fun prog w A R s h => by
    obtain ⟨hp, g, dr, tk, os⟩ := s
    obtain ⟨h1, h2⟩ := h
    wp_walk using wpAny_loadPart' h1
    exact ⟨_, rfl, h2⟩
theorem meets_listMul (l : Addr) (is : Array Value) (n : Nat) (d : Option Addr) (sl : Array (Option Value)) (x : Int) (u : Tok) (c0 : ¬(!Builtin.List.listFitsIndex x) = true) (c1 : ¬is.size * x.toNat > (2 ^ 63 - 1) / 8) (c2 : ¬Builtin.List.listTooLong (is.size * x.toNat) = true)
    (hz : (List.foldl (fun x1 x2 => x1 ++ x2) #[] (List.replicate (if is.isEmpty = true then 0 else x.toNat) is)).size ≤ sizeLine) :
    Meets (Builtin.«list.__mul__» ⟨[.ref l, .int x u], []⟩) (fun _ R s => s.heap.get? l = some { cls := .type "list", dict := d, data := .seq is n, slots := sl } ∧
      R (.ok (.ret (Value.ref s.heap.objs.size))) { s with heap := s.heap.push { cls := Value.type "list", data := Data.seq (List.foldl (fun x1 x2 => x1 ++ x2) #[] (List.replicate (if is.isEmpty = true then 0 else x.toNat) is)) }, toks := s.toks }) :=
  .of_wp fun prog w A R s h => by
    obtain ⟨hp, g, dr, tk, os⟩ := s
    obtain ⟨h1, h2⟩ := h
    have x1 := AutoSeq1.idx_int
    wp_walk using wpAny_loadPart' h1
    repeat (first
      | (refine wpAny_ite_false (decide_eq_false c0) ?_; wp_walk using wpAny_loadPart' h1)
      | (refine wpAny_ite_false (decide_eq_false c1) ?_; wp_walk using wpAny_loadPart' h1)
      | (refine wpAny_ite_false (decide_eq_false c2) ?_; wp_walk using wpAny_loadPart' h1)
      | (refine wpAny_ite_false (decide_eq_false (Nat.not_lt.mpr hz)) ?_; wp_walk using wpAny_loadPart' h1))
    exact ⟨_, rfl, h2⟩
theorem meets_tupMul1 (l : Addr) (is : Array Value) (n : Nat) (d : Option Addr) (sl : Array (Option Value)) (x : Int) (u : Tok) (c0 : (decide (x < -(2 ^ 63)) || decide (x ≥ 2 ^ 63)) = false) (c1 : (is.isEmpty || x == 1) = true) :
    Meets (Builtin.«tuple.__mul__» ⟨[.ref l, .int x u], []⟩) (fun _ R s => s.heap.get? l = some { cls := .type "tuple", dict := d, data := .seq is n, slots := sl } ∧ R (.ok (.ret (Value.ref l))) s) :=
  .of_wp fun prog w A R s h => by
    obtain ⟨hp, g, dr, tk, os⟩ := s
    obtain ⟨h1, h2⟩ := h
    have x1 := AutoSeq1.idx_int
    wp_walk using wpAny_loadPart' h1
    repeat (first
      | (refine wpAny_ite_false (decide_eq_false (by rw [c0]; exact Bool.false_ne_true)) ?_; wp_walk using wpAny_loadPart' h1)
      | (refine wpAny_ite_true (decide_eq_true c1) ?_; wp_walk using wpAny_loadPart' h1))
    exact ⟨_, rfl, h2⟩
theorem meets_tupMul0 (l : Addr) (is : Array Value) (n : Nat) (d : Option Addr) (sl : Array (Option Value)) (x : Int) (u : Tok) (c0 : (decide (x < -(2 ^ 63)) || decide (x ≥ 2 ^ 63)) = false) (c1 : (is.isEmpty || x == 1) = false) (c2 : (decide (x ≤ 0) || is.isEmpty) = true) :
    Meets (Builtin.«tuple.__mul__» ⟨[.ref l, .int x u], []⟩) (fun _ R s => s.heap.get? l = some { cls := .type "tuple", dict := d, data := .seq is n, slots := sl } ∧
      R (.ok (.ret (Value.ref s.heap.objs.size))) { s with heap := s.heap.push { cls := Value.type "tuple", data := Data.seq #[] }, toks := s.toks }) :=
  .of_wp fun prog w A R s h => by
    obtain ⟨hp, g, dr, tk, os⟩ := s
    obtain ⟨h1, h2⟩ := h
    have x1 := AutoSeq1.idx_int
    wp_walk using wpAny_loadPart' h1
    repeat (first
      | (refine wpAny_ite_false (decide_eq_false (by rw [c0]; exact Bool.false_ne_true)) ?_; wp_walk using wpAny_loadPart' h1)
      | (refine wpAny_ite_false (decide_eq_false (by rw [c1]; exact Bool.false_ne_true)) ?_; wp_walk using wpAny_loadPart' h1)
      | (refine wpAny_ite_true (decide_eq_true c2) ?_; wp_walk using wpAny_loadPart' h1))
    exact ⟨_, rfl, h2⟩
end
end FK

/-! FkD1: these rules over the hand layer. -/
namespace FK
open PySem L2 PyProof.Rows
section
variable {X : Cx}
theorem lst_obj {h : Heap} {a : Addr} {its : Array Value} (p : PlainL h a its) : ∃ n sl, h.get? a = some { cls := .type "list", dict := none, data := .seq its n, slots := sl } := by
  obtain ⟨⟨c, d, dt, sl⟩, n, h1, h2, h3, h4⟩ := p
  simp only at h2 h3 h4
  subst h2 h3 h4
  exact ⟨n, sl, h1⟩
theorem tup_obj {h : Heap} {a : Addr} {its : Array Value} (p : IsTup h a its) : ∃ n d sl, h.get? a = some { cls := .type "tuple", dict := d, data := .seq its n, slots := sl } := by
  obtain ⟨⟨c, d, dt, sl⟩, h1, h2, n, h4⟩ := p
  simp only at h2 h4
  subst h2 h4
  exact ⟨n, d, sl, h1⟩
def rCatL (K : PySem.W.Frag) : R2 := fun x y H Q => ∃ l b xs zs, x = .ref l ∧ y = .ref b ∧ SqL K H l xs ∧ SqL K H b zs ∧ xs.length + zs.length ≤ sizeLine ∧ ∀ p, H p = none → Q (.ref p) (upd H p (.lst (xs ++ zs)))
theorem op_catL : OpR X (binaryOp .Add) (rCatL X.K) := by
  intro pins s σ H x y v u Q I rx ry h
  obtain ⟨l, b, xs, zs, rfl, rfl, h1, h2, hz, q⟩ := h
  cases rx
  cases ry
  obtain ⟨i1, r1, p1, _⟩ := I.list h1
  obtain ⟨i2, r2, p2, _⟩ := I.list h2
  obtain ⟨n1, s1, e1⟩ := lst_obj p1
  obtain ⟨n2, s2, e2⟩ := lst_obj p2
  have l1 : xs.length = i1.length := r1.length
  have l2 : zs.length = i2.length := r2.length
  have hsz : i1.toArray.size + i2.toArray.size ≤ sizeLine := by simp only [List.size_toArray]; omega
  refine concat_meets (T := "list") ⟨_, e1, rfl⟩ ⟨_, e2, rfl⟩ noFill_list_add seq_list_add PySem.F.slot_list_add PySem.F.entry_list_add (PySem.F.args_list_add_2 _ _) (meets_listAdd l _ n1 _ s1 b _ n2 _ s2 hsz) ⟨e1, e2, ?_⟩
  have ea : i1.toArray ++ i2.toArray = (i1 ++ i2).toArray := by simp
  rw [ea]
  exact ⟨.ref _, _, I.lnew (t' := s.toks) (r1.append r2) (by rw [List.length_append]; exact hz), rfl, q _ I.fresh⟩
def rRepL (K : PySem.W.Frag) : R2 := fun x y H Q => ∃ l k xs, x = .ref l ∧ y = .int k ∧ SqL K H l xs ∧ -1000000 ≤ k ∧ k ≤ 1000000 ∧ xs.length * k.toNat ≤ sizeLine ∧ ∀ p, H p = none → Q (.ref p) (upd H p (.lst (List.replicate k.toNat xs).flatten))
theorem op_repL : OpR X (binaryOp .Mult) (rRepL X.K) := by
  intro pins s σ H x y v u Q I rx ry h
  obtain ⟨l, k, xs, rfl, rfl, h1, k1, k2, hz, q⟩ := h
  cases rx
  obtain ⟨t, rfl⟩ := ry
  obtain ⟨its, r, p, _⟩ := I.list h1
  obtain ⟨n, sl, e⟩ := lst_obj p
  have hl : xs.length = its.length := r.length
  have c0 : ¬ (!Builtin.List.listFitsIndex k) = true := by
    rw [fitsIndex_both (show -(2 ^ 63) ≤ k by omega) (show k < 2 ^ 63 by omega)]
    exact Bool.false_ne_true
  have hsize : its.toArray.size * k.toNat ≤ sizeLine := by rw [List.size_toArray, ← hl]; exact hz
  have c1 : ¬ its.toArray.size * k.toNat > (2 ^ 63 - 1) / 8 := by
    have : (sizeLine : Nat) ≤ (2 ^ 63 - 1) / 8 := by decide
    omega
  have c2 : ¬ Builtin.List.listTooLong (its.toArray.size * k.toNat) = true := by
    rw [notLongL hsize]
    exact Bool.false_ne_true
  have hnew : List.foldl (fun x1 x2 => x1 ++ x2) #[] (List.replicate (if its.toArray.isEmpty = true then 0 else k.toNat) its.toArray) = (List.replicate k.toNat its).flatten.toArray := by
    have f0 : ∀ m : Nat, List.foldl (fun x1 x2 => x1 ++ x2) #[] (List.replicate m its.toArray) = (List.replicate m its).flatten.toArray := fun m => size_rep its m
    rw [f0]
    cases its with
    | nil => simp
    | cons a r' => rw [if_neg (by simp)]
  have flen : (List.replicate k.toNat its).flatten.length ≤ sizeLine := by
    rw [PyProof.Rows.lm_len_rep_flat, Nat.mul_comm, ← hl]; exact hz
  refine wpAny_binaryOp_repeat_ref (T := "list") (U := "int") (by decide) ⟨_, e, rfl⟩ (fun s' => typeIs_int s' k t) noFill_list_mul PySem.F.fills_int_mul PySem.F.slot_int_rmul repeat_list PySem.F.slot_int_index.lookup
    (call_meets PySem.F.slot_int_rmul (typeIs_int s k t) PySem.F.entry_int_rmul (PySem.F.args_int_rmul_2 _ _) (meets_rmulList k t l its.toArray n none sl) ⟨e, rfl, ⟨_, e, rfl⟩, ?_⟩)
  refine call_meets PySem.F.slot_list_mul ⟨_, e, rfl⟩ PySem.F.entry_list_mul (PySem.F.args_list_mul_2 _ _) (meets_listMul l its.toArray n none sl k t c0 c1 c2 (by rw [hnew, List.size_toArray]; exact flen)) ⟨e, ?_⟩
  rw [hnew]
  exact ⟨.ref _, _, I.lnew (t' := s.toks) (r.rep k.toNat) (by rw [PyProof.Rows.lm_len_rep_flat, Nat.mul_comm]; exact hz), rfl, q _ I.fresh⟩
/-! ### tuples whose objects are known -/
/-- the tuple's object -/
abbrev tobj (its : List Value) : Obj := { cls := .type "tuple", data := .seq its.toArray }
def TupAt (H : Hp) (a : Addr) (xs : List V) : Prop := ∃ o, H a = some (.frz o (.tup xs)) ∧ o.dict = none
/-- a new tuple -/
abbrev NewT (H : Hp) (xs : List V) (Q : VK) : Prop := ∀ p o, H p = none → o.dict = none → Q (.ref p) (upd H p (.frz o (.tup xs)))
theorem TupAt.sq {K : PySem.W.Frag} {H : Hp} {a : Addr} {xs : List V} (h : TupAt H a xs) : SqT K H a xs := let ⟨o, e, _⟩ := h; .inl (.inr ⟨o, e⟩)
theorem inv_ftup {pins : List (Addr × Obj)} {σ : L2.St} {H : Hp} {s : Shared} {its : List Value} {xs : List V} {t' : Nat} (I : Inv X pins σ H s) (r : Vals xs its) (z : xs.length ≤ sizeLine) :
    Inv X pins σ (upd H s.heap.objs.size (.frz (tobj its) (.tup xs))) { s with heap := s.heap.push (tobj its), toks := t' } :=
  I.laid (fun b u e => Heap.get?_push_of_some _ e) (Nat.le_refl _) ⟨Heap.get?_push_size _ rfl, z, its, r, ⟨_, Heap.get?_push_size _ rfl, rfl, _, rfl⟩⟩
/-- a display -/
def tTupF (t : TA) : TE := fun σ H Q => t σ H fun xs H1 => xs.length ≤ sizeLine ∧ NewT H1 xs Q
theorem pe_tupF {es : List Expr} {t : TA} {x1} {pos : Pos} (h : PA X es t) : PE X (.Tuple es x1 pos) (tTupF t) := by
  refine ⟨fun pins s σ H Q I hq => ?_⟩
  refine wpAny_Tuple_spliced (thn (h.run pos pins s σ H _ I hq) fun us s1 ⟨xs, H1, I1, r, z, q⟩ => ⟨by rw [← r.length]; exact z, ?_⟩)
  exact ⟨.ref s1.heap.objs.size, _, inv_ftup I1 r z, rfl, q _ _ (I1.hok.fresh (Nat.le_refl _)) rfl⟩
/-- t + u -/
def rCatF (K : PySem.W.Frag) : R2 := fun x y H Q => ∃ a b xs ys, x = .ref a ∧ y = .ref b ∧ SqT K H a xs ∧ SqT K H b ys ∧ xs.length + ys.length ≤ sizeLine ∧
  (xs = [] → Q (.ref b) H) ∧ (xs ≠ [] → ys = [] → Q (.ref a) H) ∧ (xs ≠ [] → ys ≠ [] → NewT H (xs ++ ys) Q)
theorem op_catF : OpR X (binaryOp .Add) (rCatF X.K) := by
  intro pins s σ H x y v u Q I rx ry h
  obtain ⟨a, b, xs, ys, rfl, rfl, ha, hb, hz, q0, q1, q2⟩ := h
  cases rx
  cases ry
  obtain ⟨its, r1, p1, _⟩ := I.tuple ha
  obtain ⟨its2, r2, p2, _⟩ := I.tuple hb
  by_cases hx : xs = []
  · subst hx
    cases r1
    exact cat_tup0 p1 p2 ⟨.ref b, H, I, rfl, q0 rfl⟩
  · refine HT.cat_tup p1 p2 (fun z => hx (r1.nil_iff.mp z)) (fun z => ⟨.ref a, H, I, rfl, q1 hx (r2.nil_iff.mp z)⟩) (fun z => ?_) (by rw [← r1.length, ← r2.length]; exact hz)
    exact ⟨.ref s.heap.objs.size, _, inv_ftup (t' := s.toks) I (r1.append r2) (by rw [List.length_append]; exact hz), rfl, q2 hx (fun w => z (r2.nil_iff.mpr w)) _ _ (I.hok.fresh (Nat.le_refl _)) rfl⟩
/-- t[lo:hi] -/
def rSlF (K : PySem.W.Frag) : V → Option Int → Option Int → Hp → VK → Prop := fun x lo hi H Q => ∃ a xs, x = .ref a ∧ SqT K H a xs ∧
  (HT.sIx xs.length 0 lo = 0 ∧ HT.sIx xs.length xs.length hi = xs.length → Q (.ref a) H) ∧ (¬ (HT.sIx xs.length 0 lo = 0 ∧ HT.sIx xs.length xs.length hi = xs.length) → NewT H (cutV xs lo hi) Q)
theorem sl_tupF : SlR X (rSlF X.K) := by
  intro pins s σ H x v vl vu lo hi sl Q I rx hs pl pu h
  obtain ⟨a, xs, rfl, hx, q1, q2⟩ := h
  cases rx
  obtain ⟨its, r, ht, hz⟩ := I.tuple hx
  have hlen : its.toArray.size = xs.length := by rw [List.size_toArray]; exact r.length.symm
  refine ⟨"tuple", _, PyProof.Rows.slot_tuple_getitem.lookup, ht.typeIs, ?_⟩
  by_cases hw : HT.sIx xs.length 0 lo = 0 ∧ HT.sIx xs.length xs.length hi = xs.length
  · exact getItem_tuple_whole ht hs pl pu (by rw [hlen]; exact hw) ⟨.ref a, H, I, rfl, q1 hw⟩
  · refine HT.getItem_tuple_cut ht hs pl pu (by rw [hlen]; exact hw) ?_ (by rw [hlen]; exact hz)
    rw [hlen]
    exact ⟨.ref s.heap.objs.size, _, inv_ftup (t' := s.toks) I ((r.drop (HT.sIx xs.length 0 lo)).take (HT.sIx xs.length xs.length hi - HT.sIx xs.length 0 lo)) (Nat.le_trans (cutV_length xs lo hi) hz), rfl, q2 hw _ _ (I.hok.fresh (Nat.le_refl _)) rfl⟩
/-- tuple(x) -/
theorem call_tupleF : CallR X (.type "tuple") (fun xs H Q => ∃ p ys, xs = [.ref p] ∧ ((SqL X.K H p ys ∧ NewT H ys Q) ∨ (SqT X.K H p ys ∧ Q (.ref p) H))) := by
  intro pins s σ H xs us Q I r h
  obtain ⟨p, ys, rfl, h⟩ := h
  obtain ⟨u, rfl, rx⟩ := vals1 r
  cases rx
  rcases h with ⟨hq, q⟩ | ⟨hq, q⟩
  · obtain ⟨its, r', pl, hz⟩ := I.list hq
    have hlen := r'.length
    refine call_tuple_list pl.isList (fun h' kp => ?_) (by simp only [List.size_toArray] <;> omega)
    have I1 : Inv X pins σ H { s with heap := h' } := I.kept (t' := s.toks) kp
    exact ⟨.ref h'.objs.size, _, inv_ftup (t' := s.toks) I1 r' hz, rfl, q _ _ (I1.hok.fresh (Nat.le_refl _)) rfl⟩
  · obtain ⟨its, r', pl, hz⟩ := I.tuple hq
    exact call_tuple_same pl ⟨.ref p, H, I, rfl, q⟩
/-- tuple(range(a, b)) -/
def tTupRgF (te : L2.St → Hp → (Int → Int → Hp → Prop) → Prop) : TE := fun σ H Q => te σ H fun a b H1 => RgOk a b ∧ NewT H1 (rgV a b) Q
theorem pe_tupRgF {e : Expr} {te : L2.St → Hp → (Int → Int → Hp → Prop) → Prop} {p pos : Pos} (hc : X.calm = true) (hg : Gl X "tuple") (hm : X.mg "tuple" = none) (he : PRg X e te) (na : starEach [e] X.env = (false, eval e X.env) :: starEach [] X.env := by rfl) : PE X (.Call (.Name "tuple" p) [e] [] pos) (tTupRgF te) := by
  refine ⟨fun pins s σ H Q I h => ?_⟩
  refine Call_ (ld_blt I hg hm boot_tuple (PyProof.Rows.callWith_type1 (args_cons (thn (he pins s σ H _ I h) fun x s1 ⟨r, a, b, t, u, v, H1, ex, hr, I1, ok, q⟩ => args_nil ?_) na) na))
  subst ex
  obtain ⟨b1, b2, b3, b4, b5⟩ := ok
  refine call_tuple_range (n := (b - a).toNat) (I1.ok.hd hc) hr (small_one b1 b2 b3 b4) (rangeSize_nat a b) b5 fun h' tk acc hk hi => ?_
  have I2 : Inv X pins σ H1 { s1 with heap := h', toks := tk } := I1.kept hk
  have e : tobj acc.toList = { cls := .type "tuple", data := .seq acc } := by
    show ({ cls := .type "tuple", data := .seq acc.toList.toArray } : Obj) = _
    rw [Array.toArray_toList]
  have I3 := inv_ftup (t' := tk) I2 (vals_rg hi) (by rw [rgV_length, sizeLine_eq]; omega)
  rw [e] at I3
  exact ⟨.ref h'.objs.size, _, I3, rfl, q _ _ (I2.hok.fresh (Nat.le_refl _)) rfl⟩
def rRepTA (K : PySem.W.Frag) : R2 := fun x y H Q => ∃ l k xs, x = .ref l ∧ y = .int k ∧ SqT K H l xs ∧ 0 ≤ k ∧ k ≤ 1000 ∧ xs.length ≤ 1000 ∧
  ((xs = [] ∨ k = 1) → Q (.ref l) H) ∧ (xs ≠ [] → k ≠ 1 → NewT H (List.replicate k.toNat xs).flatten Q)
theorem op_repTA : OpR X (binaryOp .Mult) (rRepTA X.K) := by
  intro pins s σ H x y v u Q I rx ry h
  obtain ⟨l, k, xs, rfl, rfl, h1, k1, k2, hz, q1, q2⟩ := h
  by_cases hc : xs = [] ∨ k = 1
  · cases rx
    obtain ⟨t, rfl⟩ := ry
    obtain ⟨its, r, p, _⟩ := I.tuple h1
    obtain ⟨n, d, sl, e⟩ := tup_obj p
    have hl : xs.length = its.length := r.length
    have c0 : (decide (k < -(2 ^ 63)) || decide (k ≥ 2 ^ 63)) = false := by
      rw [decide_eq_false (by omega), decide_eq_false (by omega)] <;> rfl
    have c1 : (its.toArray.isEmpty || k == 1) = true := by
      rcases hc with hc | hc
      · subst hc
        cases its with
        | nil => rfl
        | cons a b => simp at hl
      · subst hc; simp
    refine wpAny_binaryOp_repeat_ref (T := "tuple") (U := "int") (by decide) ⟨_, e, rfl⟩ (fun s' => typeIs_int s' k t) noFill_tuple_mul PySem.F.fills_int_mul PySem.F.slot_int_rmul repeat_tuple PySem.F.slot_int_index.lookup
      (call_meets PySem.F.slot_int_rmul (typeIs_int s k t) PySem.F.entry_int_rmul (PySem.F.args_int_rmul_2 _ _) (int_rmul_tuple k t l its.toArray n d sl)
        ⟨e, rfl, ⟨_, e, rfl⟩, call_meets PySem.F.slot_tuple_mul ⟨_, e, rfl⟩ PySem.F.entry_tuple_mul (PySem.F.args_tuple_mul_2 _ _) (meets_tupMul1 l its.toArray n d sl k t c0 c1) ⟨e, ?_⟩⟩)
    exact ⟨.ref l, H, I, rfl, q1 hc⟩
  · have n1 : xs ≠ [] := fun z => hc (.inl z)
    have n2 : k ≠ 1 := fun z => hc (.inr z)
    by_cases h0 : k = 0
    · subst h0
      cases rx
      obtain ⟨t, rfl⟩ := ry
      obtain ⟨its, r, p, _⟩ := I.tuple h1
      obtain ⟨n, d, sl, e⟩ := tup_obj p
      have hl : xs.length = its.length := r.length
      have c1 : (its.toArray.isEmpty || (0 : Int) == 1) = false := by
        cases its with
        | nil => exact absurd (List.eq_nil_of_length_eq_zero (by simpa using hl)) n1
        | cons a b => rfl
      refine wpAny_binaryOp_repeat_ref (T := "tuple") (U := "int") (by decide) ⟨_, e, rfl⟩ (fun s' => typeIs_int s' 0 t) noFill_tuple_mul PySem.F.fills_int_mul PySem.F.slot_int_rmul repeat_tuple PySem.F.slot_int_index.lookup
        (call_meets PySem.F.slot_int_rmul (typeIs_int s 0 t) PySem.F.entry_int_rmul (PySem.F.args_int_rmul_2 _ _) (int_rmul_tuple 0 t l its.toArray n d sl)
          ⟨e, rfl, ⟨_, e, rfl⟩, call_meets PySem.F.slot_tuple_mul ⟨_, e, rfl⟩ PySem.F.entry_tuple_mul (PySem.F.args_tuple_mul_2 _ _) (meets_tupMul0 l its.toArray n d sl 0 t (by decide) c1 (by rw [decide_eq_true (Int.le_refl 0)]; rfl)) ⟨e, ?_⟩⟩)
      exact ⟨.ref _, _, inv_ftup (t' := s.toks) (xs := []) (its := []) I .nil (Nat.zero_le _), rfl, q2 n1 n2 _ _ I.fresh rfl⟩
    · cases rx
      obtain ⟨t, rfl⟩ := ry
      obtain ⟨its, r, p, _⟩ := I.tuple h1
      obtain ⟨n, d, sl, e⟩ := tup_obj p
      have hle : its.length = xs.length := r.length.symm
      have hi : its.toArray.isEmpty = false := by
        cases its with
        | nil => exact absurd (List.eq_nil_of_length_eq_zero hle.symm) n1
        | cons a b => rfl
      have hsz0 : its.toArray.size = xs.length := by rw [List.size_toArray, hle]
      have hm : ((its.toArray.size : Nat) : Int) * k ≤ 1000000 := by
        rw [hsz0]
        have a1 : ((xs.length : Nat) : Int) * k ≤ 1000 * k := Int.mul_le_mul_of_nonneg_right (by omega) (by omega)
        omega
      have flen : (List.replicate k.toNat its).flatten.length ≤ sizeLine := by
        rw [PyProof.Rows.lm_len_rep_flat, hle, sizeLine_eq]
        have a1 : k.toNat * xs.length ≤ 1000 * 1000 := Nat.mul_le_mul (by omega) hz
        omega
      have c0 : (decide (k < -(2 ^ 63)) || decide (k ≥ 2 ^ 63)) = false := by
        rw [decide_eq_false (by omega), decide_eq_false (by omega)] <;> rfl
      have c1 : (its.toArray.isEmpty || k == 1) = false := by
        rw [hi, Bool.false_or]
        exact beq_eq_false_iff_ne.mpr (by omega)
      have c2 : (decide (k ≤ 0) || its.toArray.isEmpty) = false := by
        rw [hi, Bool.or_false]
        exact decide_eq_false (by omega)
      have c4 : Builtin.Tuple.tupleTooMany (((its.toArray.size : Nat) : Int) * k) = false := by
        unfold Builtin.Tuple.tupleTooMany
        rw [sizeLine_eq]
        exact decide_eq_false (by omega)
      refine wpAny_binaryOp_repeat_ref (T := "tuple") (U := "int") (by decide) ⟨_, e, rfl⟩ (fun s' => typeIs_int s' k t) noFill_tuple_mul PySem.F.fills_int_mul PySem.F.slot_int_rmul repeat_tuple PySem.F.slot_int_index.lookup
        (call_meets PySem.F.slot_int_rmul (typeIs_int s k t) PySem.F.entry_int_rmul (PySem.F.args_int_rmul_2 _ _) (int_rmul_tuple k t l its.toArray n d sl)
          ⟨e, rfl, ⟨_, e, rfl⟩, call_meets PySem.F.slot_tuple_mul ⟨_, e, rfl⟩ PySem.F.entry_tuple_mul (PySem.F.args_tuple_mul_2 _ _) (tuple_mulW l its.toArray n d sl k t c0 c1 c2 (by omega) c4 (by rw [size_rep, List.size_toArray]; exact flen)) ⟨e, ?_⟩⟩)
      rw [size_rep]
      refine ⟨.ref _, _, inv_ftup (t' := s.toks) I (r.rep k.toNat) ?_, rfl, q2 n1 n2 _ _ I.fresh rfl⟩
      rw [PyProof.Rows.lm_len_rep_flat, sizeLine_eq]
      have a1 : k.toNat * xs.length ≤ 1000 * 1000 := Nat.mul_le_mul (by omega) hz
      omega

/-! ### repr -/
theorem dp_nodict {K : PySem.W.Frag} {H : Hp} : ∀ {d : PyData} {v : V}, Dp K H v d → d.hasDict = false := by
  intro d
  have both : (∀ d : PyData, ∀ v, Dp K H v d → d.hasDict = false) ∧ True := by
    refine ⟨?_, trivial⟩
    intro d
    refine PyData.rec (motive_1 := fun d => ∀ v, Dp K H v d → d.hasDict = false) (motive_2 := fun ds => ∀ vs, DpAll K H vs ds → PyData.hasDictAll ds = false) (motive_3 := fun _ => True) (motive_4 := fun _ => True) ?_ ?_ ?_ ?_ ?_ ?_ ?_ ?_ ?_ ?_ ?_ ?_ d
    · intros; rfl
    · intros; rfl
    · intros; rfl
    · intros; rfl
    · intro ds ih v h
      cases h with
      | lst _ q => exact ih _ q
    · intro ds ih v h
      cases h with
      | tup _ q => exact ih _ q
    · intro kvs _ v h; cases h
    · intros; rfl
    · intro d ds ih1 ih2 vs h
      cases h with
      | cons q qs => simp only [PyData.hasDictAll, ih1 _ q, ih2 _ qs, Bool.or_self]
    · trivial
    · intros; trivial
    · intros; trivial
  exact fun {v} h => both.1 d v h
def rReprD (K : PySem.W.Frag) : List V → Hp → VK → Prop := fun xs H Q => ∃ x d, xs = [x] ∧ Dp K H x d ∧ d.showable = true ∧ d.shown.length ≤ sizeLine ∧ d.depth ≤ 60 ∧ Q (.str d.shown) H
theorem cr_reprD (hg : X.A.guards = some []) (hu : X.A.units + 65 < cLine) : CallR X (.builtin "repr") (rReprD X.K) := by
  intro pins s σ H xs us Q I r h
  obtain ⟨x, d, rfl, hd, hs, hz, hdep, q⟩ := h
  obtain ⟨u, rfl, ru⟩ := vals1 r
  have fin : ∀ (z : PySem.Str) (k : Tok) (h' : Heap) (tk : Nat), (∀ b o, s.heap.get? b = some o → h'.get? b = some o) → z = d.shown → EP X pins σ Q (.str z k) { s with heap := h', toks := tk } := fun z k h' tk kp e =>
    by
    subst e
    exact ⟨.str d.shown, H, I.kept (t' := tk) kp, ⟨k, rfl⟩, q⟩
  have hnd := dp_nodict hd
  cases hx : x with
  | ref a =>
    subst hx
    cases ru
    obtain ⟨as, rr⟩ := Dp.reads I d _ _ hd rfl
    exact repr_of_reads' rr hs (PySem.PyData.noDict_hsm hnd) hg (by omega) (fun _ _ e => e) (fun h' u tk hk => fin _ _ _ _ hk rfl) hz
  | non => subst hx; cases hd; cases ru; exact PySem.P.repr_of_none (fin _ _ _ _ (fun _ _ e => e) (by simp [PyData.shown]))
  | bl b => subst hx; cases hd; cases ru; exact PySem.P.repr_of_bool (fin _ _ _ _ (fun _ _ e => e) (by cases b <;> simp [PyData.shown]))
  | int i =>
    subst hx; cases hd; obtain ⟨t, rfl⟩ := ru
    have hi : i.natAbs.log2 < 1920 := by simpa [PyData.showable] using hs
    exact PySem.P.repr_of_int hi (fin _ _ _ _ (fun _ _ e => e) (by simp [PyData.shown]))
  | str z =>
    subst hx; cases hd; obtain ⟨t, rfl⟩ := ru
    exact PySem.P.repr_of_str (fin _ _ _ _ (fun _ _ e => e) (by simp [PyData.shown])) (by simpa [PyData.shown] using hz)
  | byt b => subst hx; cases hd
  | flt b => subst hx; cases hd
  | ty b => subst hx; cases hd

/-! ### max, min of three -/
theorem cr_max3 (hc : X.calm = true) : CallR X (.builtin "max") (fun xs H Q => ∃ i j k, xs = [.int i, .int j, .int k] ∧ Q (.int (max (max i j) k)) H) := by
  intro pins s σ H xs us Q I r h
  obtain ⟨i, j, k, rfl, q⟩ := h
  refine call_max3Nu hc pins s σ H _ us Q I r ⟨.int i, .int j, .int k, .int (max (max i j) k), rfl, ?_, q⟩
  simp only [nuMax3, nuMax2, nuLt, nuCB, Option.map_some, Option.bind_some]
  congr 1
  by_cases h1 : i < j
  · simp only [h1, decide_true, if_true, nuMax2, nuLt, nuCB, Option.map_some]
    by_cases h2 : j < k
    · simp only [h2, decide_true, if_true]; congr 2; omega
    · simp only [h2, decide_false, Bool.false_eq_true, if_false]; congr 2; omega
  · simp only [h1, decide_false, Bool.false_eq_true, if_false, nuMax2, nuLt, nuCB, Option.map_some]
    by_cases h2 : i < k
    · simp only [h2, decide_true, if_true]; congr 2; omega
    · simp only [h2, decide_false, Bool.false_eq_true, if_false]; congr 2; omega
theorem cr_min3 (hc : X.calm = true) : CallR X (.builtin "min") (fun xs H Q => ∃ i j k, xs = [.int i, .int j, .int k] ∧ Q (.int (min (min i j) k)) H) := by
  intro pins s σ H xs us Q I r h
  obtain ⟨i, j, k, rfl, q⟩ := h
  refine call_min3Nu hc pins s σ H _ us Q I r ⟨.int i, .int j, .int k, .int (min (min i j) k), rfl, ?_, q⟩
  simp only [nuMin3, nuMin2, nuLt, nuCB, Option.map_some, Option.bind_some]
  congr 1
  by_cases h1 : j < i
  · simp only [h1, decide_true, if_true, nuMin2, nuLt, nuCB, Option.map_some]
    by_cases h2 : k < j
    · simp only [h2, decide_true, if_true]; congr 2; omega
    · simp only [h2, decide_false, Bool.false_eq_true, if_false]; congr 2; omega
  · simp only [h1, decide_false, Bool.false_eq_true, if_false, nuMin2, nuLt, nuCB, Option.map_some]
    by_cases h2 : k < i
    · simp only [h2, decide_true, if_true]; congr 2; omega
    · simp only [h2, decide_false, Bool.false_eq_true, if_false]; congr 2; omega
end
end FK

/-! FkB: how an env lies in the heap (Sim): F, the part of the heap that nobody changes any more; lists of one's own beside it. -/
namespace FK
open PySem L2
open LamX (Tabs ExtN CodeO)

theorem same_new {H : Hp} {p : Addr} {o : HO} (h : H p = none) : Same H (upd H p o) := fun b x e => by
  rw [upd_ne (ne_of_none e h)]; exact e
theorem sqL_mono {K : PySem.W.Frag} {H H' : Hp} {a : Addr} {xs : List V} (e : Same H H') (h : SqL K H a xs) : SqL K H' a xs := by
  rcases h with (q | ⟨o, q⟩) | q
  · exact .inl (.inl (e _ _ q))
  · exact .inl (.inr ⟨o, e _ _ q⟩)
  · exact .inr q
theorem sqT_mono {K : PySem.W.Frag} {H H' : Hp} {a : Addr} {xs : List V} (e : Same H H') (h : SqT K H a xs) : SqT K H' a xs := by
  rcases h with (q | ⟨o, q⟩) | q
  · exact .inl (.inl (e _ _ q))
  · exact .inl (.inr ⟨o, e _ _ q⟩)
  · exact .inr q
/-! ### how a datum lies -/
theorem TupAt.mono {H H' : Hp} {a : Addr} {xs : List V} (e : Same H H') (h : TupAt H a xs) : TupAt H' a xs := let ⟨o, q, d⟩ := h; ⟨o, e _ _ q, d⟩
mutual
/-- a key of a dict: an int, a tuple of such -/
def nkOf : D → Option NestedKey
  | .int i => some (.num i)
  | .tuple ds => (nksOf ds).map .tup
  | _ => none
def nksOf : List D → Option (List NestedKey)
  | [] => some []
  | d :: ds => match nkOf d, nksOf ds with
    | some k, some ks => some (k :: ks)
    | _, _ => none
end
/-- the dict's object at a -/
def dicO (a : Addr) (es : Array DictEntry) (ep : Nat) : HO := .ext fun h => ∃ o, h.get? a = some o ∧ o.ExactDict ∧ o.data = .dict es ep
def KeysOk (kvs : List (D × D)) : Prop := (kvs.map Prod.fst).Nodup ∧ kvs.length ≤ 16777216
mutual
inductive Dq (K : PySem.W.Frag) (H : Hp) : V → D → Prop
  | non : Dq K H .non .none
  | bl (b : Bool) : Dq K H (.bl b) (.bool b)
  | int (i : Int) : Dq K H (.int i) (.int i)
  | str (x : Str) : Dq K H (.str x) (.str x)
  | lst {a : Addr} {xs : List V} {ds : List D} : SqL K H a xs → DqAll K H xs ds → Dq K H (.ref a) (.list ds)
  | tup {a : Addr} {xs : List V} {ds : List D} : TupAt H a xs → DqAll K H xs ds → Dq K H (.ref a) (.tuple ds)
  | dic {a : Addr} {es : Array DictEntry} {ep : Nat} {kvs : List (D × D)} : H a = some (dicO a es ep) → KeysOk kvs → DqEs K H es.toList kvs → Dq K H (.ref a) (.dict kvs)
inductive DqAll (K : PySem.W.Frag) (H : Hp) : List V → List D → Prop
  | nil : DqAll K H [] []
  | cons {v : V} {vs : List V} {d : D} {ds : List D} : Dq K H v d → DqAll K H vs ds → DqAll K H (v :: vs) (d :: ds)
inductive DqEs (K : PySem.W.Frag) (H : Hp) : List DictEntry → List (D × D) → Prop
  | nil : DqEs K H [] []
  | cons {e : DictEntry} {es : List DictEntry} {kx vx : V} {kd vd : D} {kvs : List (D × D)} {nk : NestedKey} : RelV kx e.key → RelV vx e.val → nkOf kd = some nk → (∀ w, e.hash = nk.hash w) → Dq K H kx kd → Dq K H vx vd → DqEs K H es kvs → DqEs K H (e :: es) ((kd, vd) :: kvs)
end
section
variable {K : PySem.W.Frag} {H H' : Hp}
mutual
theorem dp_mono (e : Same H H') : ∀ (d : D) (v : V), Dq K H v d → Dq K H' v d
  | .none, _, h => by cases h; exact .non
  | .bool b, _, h => by cases h; exact .bl b
  | .int i, _, h => by cases h; exact .int i
  | .str x, _, h => by cases h; exact .str x
  | .list ds, _, h => by
    cases h with
    | lst q qs => exact .lst (sqL_mono e q) (dps_mono e ds _ qs)
  | .tuple ds, _, h => by
    cases h with
    | tup q qs => exact .tup (q.mono e) (dps_mono e ds _ qs)
  | .dict kvs, _, h => by
    cases h with
    | dic q1 q2 q3 => exact .dic (e _ _ q1) q2 (des_mono e kvs _ q3)
theorem dps_mono (e : Same H H') : ∀ (ds : List D) (vs : List V), DqAll K H vs ds → DqAll K H' vs ds
  | [], _, h => by cases h; exact .nil
  | d :: ds, _, h => by
    cases h with
    | cons q qs => exact .cons (dp_mono e d _ q) (dps_mono e ds _ qs)
theorem des_mono (e : Same H H') : ∀ (kvs : List (D × D)) (es : List DictEntry), DqEs K H es kvs → DqEs K H' es kvs
  | [], _, h => by cases h; exact .nil
  | (kd, vd) :: kvs, _, h => by
    cases h with
    | cons a b c d q1 q2 qs => exact .cons a b c d (dp_mono e kd _ q1) (dp_mono e vd _ q2) (des_mono e kvs _ qs)
end
mutual
theorem dq_dp : ∀ (d : D) (v : V), d.plain = true → Dq K H v d → Dp K H v d
  | .none, _, _, h => by cases h; exact .non
  | .bool b, _, _, h => by cases h; exact .bl b
  | .int i, _, _, h => by cases h; exact .int i
  | .str x, _, _, h => by cases h; exact .str x
  | .list ds, _, p, h => by
    cases h with
    | lst q qs => exact .lst q (dqs_dps ds _ p qs)
  | .tuple ds, _, p, h => by
    cases h with
    | tup q qs => exact .tup q.sq (dqs_dps ds _ p qs)
  | .dict kvs, _, p, h => by cases p
theorem dqs_dps : ∀ (ds : List D) (vs : List V), PyData.plainAll ds = true → DqAll K H vs ds → DpAll K H vs ds
  | [], _, _, h => by cases h; exact .nil
  | d :: ds, _, p, h => by
    have p' : (d.plain && PyData.plainAll ds) = true := p
    rw [Bool.and_eq_true] at p'
    cases h with
    | cons q qs => exact .cons (dq_dp d _ p'.1 q) (dqs_dps ds _ p'.2 qs)
end
theorem dps_length : ∀ {ds : List D} {vs : List V}, DqAll K H vs ds → vs.length = ds.length
  | [], _, h => by cases h; rfl
  | _ :: ds, _, h => by
    cases h with
    | cons _ qs => simp [dps_length qs]
theorem dps_get : ∀ {ds : List D} {vs : List V} {i : Nat} {d : D}, DqAll K H vs ds → ds[i]? = some d → ∃ v, vs[i]? = some v ∧ Dq K H v d
  | [], _, i, _, h, e => by simp at e
  | d :: ds, _, 0, _, h, e => by
    cases h with
    | cons q _ => simp at e; subst e; exact ⟨_, rfl, q⟩
  | d :: ds, _, i + 1, _, h, e => by
    cases h with
    | cons _ qs =>
      obtain ⟨v, h1, h2⟩ := dps_get (i := i) qs (by simpa using e)
      exact ⟨v, by simpa using h1, h2⟩
theorem dps_get' : ∀ {ds : List D} {vs : List V} {i : Nat} {v : V}, DqAll K H vs ds → vs[i]? = some v → ∃ d, ds[i]? = some d ∧ Dq K H v d
  | [], _, i, _, h, e => by cases h; simp at e
  | d :: ds, _, 0, _, h, e => by
    cases h with
    | cons q _ => simp at e; subst e; exact ⟨_, rfl, q⟩
  | d :: ds, _, i + 1, _, h, e => by
    cases h with
    | cons _ qs =>
      obtain ⟨v, h1, h2⟩ := dps_get' (i := i) qs (by simpa using e)
      exact ⟨v, by simpa using h1, h2⟩
theorem dps_append : ∀ {ds es : List D} {vs us : List V}, DqAll K H vs ds → DqAll K H us es → DqAll K H (vs ++ us) (ds ++ es)
  | [], _, _, _, h, g => by cases h; exact g
  | d :: ds, _, _, _, h, g => by
    cases h with
    | cons q qs => exact .cons q (dps_append qs g)
theorem dps_drop : ∀ {ds : List D} {vs : List V} (n : Nat), DqAll K H vs ds → DqAll K H (vs.drop n) (ds.drop n)
  | _, _, 0, h => h
  | [], _, n + 1, h => by cases h; exact .nil
  | d :: ds, _, n + 1, h => by
    cases h with
    | cons _ qs => exact dps_drop n qs
theorem dps_take : ∀ {ds : List D} {vs : List V} (n : Nat), DqAll K H vs ds → DqAll K H (vs.take n) (ds.take n)
  | _, _, 0, h => .nil
  | [], _, n + 1, h => by cases h; exact .nil
  | d :: ds, _, n + 1, h => by
    cases h with
    | cons q qs => exact .cons q (dps_take n qs)
theorem dps_set : ∀ {ds : List D} {vs : List V} {v : V} {d : D} (n : Nat), DqAll K H vs ds → Dq K H v d → DqAll K H (vs.set n v) (ds.set n d)
  | [], _, _, _, _, h, _ => by cases h; exact .nil
  | _ :: _, _, _, _, 0, h, g => by
    cases h with
    | cons q qs => exact .cons g qs
  | _ :: _, _, _, _, n + 1, h, g => by
    cases h with
    | cons q qs => exact .cons q (dps_set n qs g)
theorem dps_rep {ds : List D} {vs : List V} (h : DqAll K H vs ds) : ∀ n : Nat, DqAll K H (List.replicate n vs).flatten (List.replicate n ds).flatten
  | 0 => .nil
  | n + 1 => by
    rw [List.replicate_succ, List.replicate_succ, List.flatten_cons, List.flatten_cons]
    exact dps_append h (dps_rep h n)
end

/-- the lists and tuples of the heap have a size that the machine bears -/
def szH : HO → Prop
  | .lst xs => xs.length ≤ sizeLine
  | .tup xs => xs.length ≤ sizeLine
  | .frz _ u => szH u
  | _ => True
def HSz (H : Hp) : Prop := ∀ a o, H a = some o → szH o
theorem HSz.new {H : Hp} {p : Addr} {o : HO} (h : HSz H) (z : szH o) : HSz (upd H p o) := fun a u e => by
  by_cases q : a = p
  · rw [q, upd_same] at e; cases e; exact z
  · rw [upd_ne q] at e; exact h a u e
theorem objOk_sz {P : Program} {w : World} {H : Hp} {h : Heap} {a : Addr} : ∀ {o : HO}, ObjOk P w H h a o → szH o
  | .lst _, q => q.1
  | .tup _, q => q.1
  | .frz _ u, q => objOk_sz (o := u) q.2
  | .dK _, _ => trivial
  | .dT _, _ => trivial
  | .set _ _, _ => trivial
  | .ins _ _ _, _ => trivial
  | .own _, _ => trivial
  | .xd _, _ => trivial
  | .met _ _, _ => trivial
  | .rng _ _, _ => trivial
  | .tbl _, _ => trivial
  | .ext _, _ => trivial
theorem hsz_of {P : Program} {w : World} {H : Hp} {h : Heap} (q : HOk P w H h) : HSz H := fun a o e => objOk_sz (q a o e)
theorem sqL_sz {K : PySem.W.Frag} {H : Hp} {a : Addr} {xs : List V} (z : HSz H) (h : SqL K H a xs) : xs.length ≤ sizeLine := by
  rcases h with (q | ⟨o, q⟩) | ⟨o, its, n, _, _, _, _, hz, r⟩
  · exact z _ _ q
  · exact z _ _ q
  · have e : xs.length = its.size := (Vals.length r).trans (by simp)
    rw [e]; exact hz
theorem sqT_sz {K : PySem.W.Frag} {H : Hp} {a : Addr} {xs : List V} (z : HSz H) (h : SqT K H a xs) : xs.length ≤ sizeLine := by
  rcases h with (q | ⟨o, q⟩) | ⟨o, its, n, _, _, _, hz, r⟩
  · exact z _ _ q
  · exact z _ _ q
  · have e : xs.length = its.size := (Vals.length r).trans (by simp)
    rw [e]; exact hz

/-- the object at p is this thing of one's own -/
def OwnAt (K : PySem.W.Frag) (F : Hp) (p : Addr) (o : HO) : Own → Prop
  | .lst ds => ∃ xs, o = .lst xs ∧ DqAll K F xs ds
  | .dic kvs => ∃ es ep, o = dicO p es ep ∧ KeysOk kvs ∧ DqEs K F es.toList kvs
theorem OwnAt.mono {K : PySem.W.Frag} {F F' : Hp} {p : Addr} {o : HO} (e : Same F F') : ∀ {w : Own}, OwnAt K F p o w → OwnAt K F' p o w
  | .lst ds, ⟨xs, h1, h2⟩ => ⟨xs, h1, dps_mono e _ _ h2⟩
  | .dic kvs, ⟨es, ep, h1, h2, h3⟩ => ⟨es, ep, h1, h2, des_mono e _ _ h3⟩
theorem OwnAt.dq {K : PySem.W.Frag} {F : Hp} {p : Addr} {o : HO} (h : F p = some o) : ∀ {w : Own}, OwnAt K F p o w → Dq K F (.ref p) w.data
  | .lst ds, ⟨xs, h1, h2⟩ => .lst (.inl (.inl (by rw [h, h1]))) h2
  | .dic kvs, ⟨es, ep, h1, h2, h3⟩ => .dic (by rw [h, h1]) h2 h3
theorem OwnAt.ntbl {K : PySem.W.Frag} {F : Hp} {p : Addr} {o : HO} : ∀ {w : Own}, OwnAt K F p o w → ∀ ps, o ≠ .tbl ps
  | .lst ds, ⟨xs, h1, _⟩, ps, e => by rw [h1] at e; cases e
  | .dic kvs, ⟨es, ep, h1, _⟩, ps, e => by
    rw [h1] at e
    unfold dicO at e
    cases e
theorem ext_sz {φ : Heap → Prop} : szH (.ext φ) := trivial
theorem own_data {v : Val} {w : Own} (h : v.own = some w) : v.data = w.data := by
  cases v with
  | fz d => cases h
  | ow ds => cases h; rfl
  | od kvs => cases h; rfl
theorem own_val {w : Own} : w.val.own = some w := by cases w <;> rfl
theorem own_eq {v : Val} {w : Own} (h : v.own = some w) : v = w.val := by
  cases v with
  | fz d => cases h
  | ow ds => cases h; rfl
  | od kvs => cases h; rfl
theorem own_cases (v : Val) : (∃ d, v = .fz d) ∨ ∃ w, v.own = some w := by
  cases v with
  | fz d => exact .inl ⟨d, rfl⟩
  | ow ds => exact .inr ⟨_, rfl⟩
  | od kvs => exact .inr ⟨_, rfl⟩
/-- where a body runs: the heap and its fast part at the entry, the lists that were handed in to be changed -/
structure Ct where
  K : PySem.W.Frag
  /-- the tables of code objects, by the names of the lambdas -/
  T : List (Addr × Str)
  H0 : Hp
  F0 : Hp
  Bs : List (Nat × Addr)
  /-- lists that wait to be used: nobody touches them -/
  Z : Hp

/-- the tables: all code objects that they tell are in the fast part -/
def TabF (T : List (Addr × Str)) (F H : Hp) : Prop := ∀ z ∈ T, ∃ ps : Array Value, H z.1 = some (.tbl ps) ∧ TriplesOk ps.toList ∧ ∀ (pos : Pos) (cv : Value), codeAmong pos ps.toList = some cv → ∃ c, cv = .ref c ∧ F c = some (CodeO c z.2)
structure Sim (C : Ct) (F : Hp) (ρ : Rho) (σ : St) (H : Hp) : Prop where
  len : ρ.length = σ.length
  sub : Same F H
  sz : HSz H
  fz : ∀ (i : Nat) (d : D), ρ[i]? = some (some (.fz d)) → ∃ x, σ[i]? = some (some x) ∧ Dq C.K F x d
  ow : ∀ (i : Nat) (v : Val) (w : Own), ρ[i]? = some (some v) → v.own = some w → ∃ p o, σ[i]? = some (some (.ref p)) ∧ F p = none ∧ H p = some o ∧ OwnAt C.K F p o w ∧ ((i, p) ∈ C.Bs ∨ C.H0 p = none)
  dist : ∀ (i j : Nat) (v u : Val) (w y : Own) (p : Addr), i ≠ j → ρ[i]? = some (some v) → v.own = some w → ρ[j]? = some (some u) → u.own = some y → σ[i]? = some (some (.ref p)) → σ[j]? ≠ some (some (.ref p))
  brs : ∀ q ∈ C.Bs, σ[q.1]? = some (some (.ref q.2))
  bt : ∀ q ∈ C.Bs, ∃ o, H q.2 = some o ∧ ∀ ps, o ≠ .tbl ps
  ext : ∀ a o, C.H0 a = some o → (∀ q ∈ C.Bs, q.2 ≠ a) → (∀ ps, o ≠ .tbl ps) → H a = some o
  ht : ∀ a ps, C.H0 a = some (.tbl ps) → ∃ o, H a = some o
  f0 : Same C.F0 F
  new : ∀ a, F a ≠ none → C.F0 a ≠ none ∨ C.H0 a = none ∨ ∃ q ∈ C.Bs, q.2 = a
  zp : ∀ a o, C.Z a = some o → H a = some o ∧ F a = none ∧ (∀ ps, o ≠ .tbl ps) ∧ ∀ (i : Nat) (v : Val) (w : Own), ρ[i]? = some (some v) → v.own = some w → σ[i]? ≠ some (some (.ref a))
  tb : TabF C.T F H
  nt : ∀ a o, F a = some o → ∀ ps, o ≠ .tbl ps

section
variable {C : Ct} {F F' H H' : Hp} {ρ ρ' : Rho} {σ σ' : St} {p : Addr} {xs : List V} {ds : List D} {o : HO}
theorem Sim.free (S : Sim C F ρ σ H) (h : H p = none) : F p = none := by
  cases q : F p with
  | none => rfl
  | some o => rw [S.sub _ _ q] at h; cases h
theorem Sim.freeZ (S : Sim C F ρ σ H) (h : H p = none) : C.Z p = none := by
  cases q : C.Z p with
  | none => rfl
  | some o => rw [(S.zp _ _ q).1] at h; cases h
theorem Sim.free0 (S : Sim C F ρ σ H) (h : H p = none) : C.H0 p = none := by
  cases q : C.H0 p with
  | none => rfl
  | some o =>
    by_cases ht : ∃ ps, o = .tbl ps
    · obtain ⟨ps, rfl⟩ := ht
      obtain ⟨o', e⟩ := S.ht p ps q
      rw [h] at e; cases e
    by_cases hb : ∃ q ∈ C.Bs, q.2 = p
    · obtain ⟨q, hq, e⟩ := hb
      obtain ⟨o', e', _⟩ := S.bt q hq
      rw [e, h] at e'; cases e'
    · rw [S.ext p o q (fun q' hq' e => hb ⟨q', hq', e⟩) fun ps e => ht ⟨ps, e⟩] at h; cases h
theorem TabF.keep {T : List (Addr × Str)} (s : Same F F') (k : ∀ a ps, H a = some (.tbl ps) → H' a = some (.tbl ps)) (t : TabF T F H) : TabF T F' H' := fun z hz => by
  obtain ⟨ps, h1, h2, h3⟩ := t z hz
  refine ⟨ps, k _ _ h1, h2, fun pos cv hcv => ?_⟩
  obtain ⟨c, e1, e2⟩ := h3 pos cv hcv
  exact ⟨c, e1, s _ _ e2⟩
/-- a free place -/
theorem tb_new (h : H p = none) : ∀ a ps, H a = some (.tbl ps) → upd H p o a = some (.tbl ps) := fun a ps e => by rw [upd_ne (ne_of_none e h)]; exact e
/-- a place that no table is -/
theorem tb_chg {u : HO} (h : H p = some u) (hu : ∀ ps, u ≠ .tbl ps) : ∀ a ps, H a = some (.tbl ps) → upd H p o a = some (.tbl ps) := fun a ps e => by
  have ne : a ≠ p := fun z => by rw [z, h] at e; cases e; exact hu _ rfl
  rw [upd_ne ne]; exact e
theorem Sim.slotOwn (S : Sim C F ρ σ H) (h : H p = none) (i : Nat) (v : Val) (w : Own) (e : ρ[i]? = some (some v)) (hw : v.own = some w) : σ[i]? ≠ some (some (.ref p)) := fun z => by
  obtain ⟨q, o, h1, _, h3, _⟩ := S.ow i v w e hw
  rw [z] at h1
  have : p = q := by injection (Option.some.inj (Option.some.inj h1))
  rw [← this, h] at h3; cases h3

/-- the heap and its fast part grow at a free place -/
theorem Sim.grow (S : Sim C F ρ σ H) (h : H p = none) (z : szH o) (hn : ∀ ps, o ≠ .tbl ps) : Sim C (upd F p o) ρ σ (upd H p o) where
  len := S.len
  sub := fun a u e => by
    by_cases q : a = p
    · rw [q, upd_same] at e ⊢; exact e
    · rw [upd_ne q] at e ⊢; exact S.sub _ _ e
  sz := S.sz.new z
  fz := fun i d e => let ⟨x, h1, h2⟩ := S.fz i d e; ⟨x, h1, dp_mono (same_new (S.free h)) _ _ h2⟩
  ow := fun i v w e hw => by
    obtain ⟨q, u, h1, h2, h3, h4, h5⟩ := S.ow i v w e hw
    have ne : q ≠ p := ne_of_none h3 h
    exact ⟨q, u, h1, by rw [upd_ne ne]; exact h2, by rw [upd_ne ne]; exact h3, h4.mono (same_new (S.free h)), h5⟩
  dist := S.dist
  brs := S.brs
  bt := fun q hq => by
    obtain ⟨u, e1, e2⟩ := S.bt q hq
    exact ⟨u, by rw [upd_ne (ne_of_none e1 h)]; exact e1, e2⟩
  ext := fun a u e hb ht => by
    have e' := S.ext a u e hb ht
    rw [upd_ne (ne_of_none e' h)]; exact e'
  ht := fun a ps e => by
    obtain ⟨u, e'⟩ := S.ht a ps e
    exact ⟨u, by rw [upd_ne (ne_of_none e' h)]; exact e'⟩
  f0 := fun a u e => same_new (S.free h) a u (S.f0 a u e)
  new := fun a e => by
    by_cases q : a = p
    · subst q; exact .inr (.inl (S.free0 h))
    · rw [upd_ne q] at e; exact S.new a e
  zp := fun a u e => by
    obtain ⟨h1, h2, h3⟩ := S.zp a u e
    have ne := ne_of_none h1 h
    exact ⟨by rw [upd_ne ne]; exact h1, by rw [upd_ne ne]; exact h2, h3⟩
  tb := S.tb.keep (same_new (S.free h)) (tb_new h)
  nt := fun a u e => by
    by_cases q : a = p
    · rw [q, upd_same] at e; cases e; exact hn
    · rw [upd_ne q] at e; exact S.nt a u e
/-- a new tuple -/
theorem Sim.tup {o : Obj} (S : Sim C F ρ σ H) (h : H p = none) (ho : o.dict = none) (hd : DqAll C.K F xs ds) (hz : ds.length ≤ sizeLine) :
    Sim C (upd F p (.frz o (.tup xs))) ρ σ (upd H p (.frz o (.tup xs))) ∧ Dq C.K (upd F p (.frz o (.tup xs))) (.ref p) (.tuple ds) :=
  ⟨S.grow h (by show xs.length ≤ sizeLine; rw [dps_length hd]; exact hz) (fun _ e => by cases e), .tup ⟨o, upd_same, ho⟩ (dps_mono (same_new (S.free h)) _ _ hd)⟩
/-- a new object that nobody knows -/
theorem Sim.laid (S : Sim C F ρ σ H) (h : H p = none) (hz : szH o) : Sim C F ρ σ (upd H p o) where
  len := S.len
  sub := fun a u e => by
    have e' := S.sub _ _ e
    rw [upd_ne (ne_of_none e' h)]; exact e'
  sz := S.sz.new hz
  fz := S.fz
  ow := fun i v w e hw => by
    obtain ⟨q, ys, h1, h2, h3, h4, h5⟩ := S.ow i v w e hw
    exact ⟨q, ys, h1, h2, by rw [upd_ne (ne_of_none h3 h)]; exact h3, h4, h5⟩
  dist := S.dist
  brs := S.brs
  bt := fun q hq => by
    obtain ⟨u, e1, e2⟩ := S.bt q hq
    exact ⟨u, by rw [upd_ne (ne_of_none e1 h)]; exact e1, e2⟩
  ext := fun a u e hb ht => by
    have e' := S.ext a u e hb ht
    rw [upd_ne (ne_of_none e' h)]; exact e'
  ht := fun a ps e => by
    obtain ⟨u, e'⟩ := S.ht a ps e
    exact ⟨u, by rw [upd_ne (ne_of_none e' h)]; exact e'⟩
  f0 := S.f0
  new := S.new
  zp := fun a u e => by
    obtain ⟨h1, h2, h3⟩ := S.zp a u e
    exact ⟨by rw [upd_ne (ne_of_none h1 h)]; exact h1, h2, h3⟩
  tb := S.tb.keep (Same.refl F) (tb_new h)
  nt := S.nt
/-- a new list of one's own -/
theorem Sim.own (S : Sim C F ρ σ H) (h : H p = none) (hz : xs.length ≤ sizeLine) : Sim C F ρ σ (upd H p (.lst xs)) := S.laid h hz

/-- how a value lies: a datum in the fast part; a thing that no slot holds -/
def RVo (C : Ct) (F : Hp) (ρ : Rho) (σ : St) (H : Hp) (w : Own) (x : V) : Prop :=
  ∃ p o, x = .ref p ∧ F p = none ∧ H p = some o ∧ OwnAt C.K F p o w ∧ C.H0 p = none ∧ C.Z p = none ∧ ∀ (i : Nat) (v : Val) (y : Own), ρ[i]? = some (some v) → v.own = some y → σ[i]? ≠ some (some (.ref p))
def RV (C : Ct) (F : Hp) (ρ : Rho) (σ : St) (H : Hp) (v : Val) (x : V) : Prop :=
  match v with
  | .fz d => Dq C.K F x d
  | .ow ds => RVo C F ρ σ H (.lst ds) x
  | .od kvs => RVo C F ρ σ H (.dic kvs) x
theorem rv_own {v : Val} {w : Own} {x : V} (h : v.own = some w) : RV C F ρ σ H v x = RVo C F ρ σ H w x := by
  cases v with
  | fz d => cases h
  | ow ds => cases h; rfl
  | od kvs => cases h; rfl
theorem Sim.newRV {w : Own} (S : Sim C F ρ σ H) (h : H p = none) (hz : szH o) (ho : OwnAt C.K F p o w) : Sim C F ρ σ (upd H p o) ∧ RVo C F ρ σ (upd H p o) w (.ref p) :=
  ⟨S.laid h hz, p, o, rfl, S.free h, upd_same, ho, S.free0 h, S.freeZ h, S.slotOwn h⟩
theorem Sim.ownRV (S : Sim C F ρ σ H) (h : H p = none) (hd : DqAll C.K F xs ds) (hz : ds.length ≤ sizeLine) :
    Sim C F ρ σ (upd H p (.lst xs)) ∧ RV C F ρ σ (upd H p (.lst xs)) (.ow ds) (.ref p) :=
  S.newRV h (by show xs.length ≤ sizeLine; rw [dps_length hd]; exact hz) ⟨xs, rfl, hd⟩
/-- a thing that no slot holds is frozen -/
theorem Sim.freeze {v : Val} {x : V} (S : Sim C F ρ σ H) (r : RV C F ρ σ H v x) : ∃ F', Same F F' ∧ Sim C F' ρ σ H ∧ Dq C.K F' x v.data := by
  rcases own_cases v with ⟨d, rfl⟩ | ⟨w, hw⟩
  · exact ⟨F, Same.refl F, S, r⟩
  · rw [rv_own hw] at r
    obtain ⟨p, o, rfl, hF, hH, hd, h0, hZ, hs⟩ := r
    have sm : Same F (upd F p o) := same_new hF
    refine ⟨upd F p o, sm, ⟨S.len, ?_, S.sz, fun i d e => ?_, fun i u y e hy => ?_, S.dist, S.brs, S.bt, S.ext, S.ht, fun a u e => sm a u (S.f0 a u e), fun a e => ?_, fun a u e => ?_, S.tb.keep sm fun _ _ e => e, fun a u e => ?_⟩, by rw [own_data hw]; exact (hd.mono sm).dq upd_same⟩
    · intro a u e
      by_cases q : a = p
      · rw [q, upd_same] at e; cases e; rw [q]; exact hH
      · rw [upd_ne q] at e; exact S.sub _ _ e
    · obtain ⟨x, h1, h2⟩ := S.fz i d e
      exact ⟨x, h1, dp_mono sm _ _ h2⟩
    · obtain ⟨q, ys, h1, h2, h3, h4, h5⟩ := S.ow i u y e hy
      have ne : q ≠ p := fun z => hs i u y e hy (by rw [h1, z])
      exact ⟨q, ys, h1, by rw [upd_ne ne]; exact h2, h3, h4.mono sm, h5⟩
    · by_cases q : a = p
      · subst q; exact .inr (.inl h0)
      · rw [upd_ne q] at e; exact S.new a e
    · obtain ⟨h1, h2, h3⟩ := S.zp a u e
      exact ⟨h1, by rw [upd_ne (ne_of_none e hZ)]; exact h2, h3⟩
    · by_cases q : a = p
      · rw [q, upd_same] at e; cases e; exact hd.ntbl
      · rw [upd_ne q] at e; exact S.nt a u e
/-- the thing at a slot is frozen -/
theorem Sim.freezeAt {i : Nat} {v : Val} {w : Own} (S : Sim C F ρ σ H) (e : ρ[i]? = some (some v)) (hw : v.own = some w) : ∃ F' p, Same F F' ∧ Sim C F' (ρ.set i (some (.fz v.data))) σ H ∧ σ[i]? = some (some (.ref p)) ∧ Dq C.K F' (.ref p) v.data := by
  obtain ⟨p, o, hσ, hF, hH, hd, hb⟩ := S.ow i v w e hw
  have sm : Same F (upd F p o) := same_new hF
  have hi : i < ρ.length := (List.getElem?_eq_some_iff.mp e).1
  have hdp : Dq C.K (upd F p o) (.ref p) v.data := by rw [own_data hw]; exact (hd.mono sm).dq upd_same
  have back : ∀ {j : Nat} {u : Val} {y : Own}, (ρ.set i (some (.fz v.data)))[j]? = some (some u) → u.own = some y → i ≠ j ∧ ρ[j]? = some (some u) := fun {j u y} e' hy => by
    by_cases ij : i = j
    · subst ij
      rw [List.getElem?_set_self hi] at e'; cases e'; cases hy
    · rw [List.getElem?_set_ne ij] at e'; exact ⟨ij, e'⟩
  refine ⟨upd F p o, p, sm, ⟨by rw [List.length_set]; exact S.len, ?_, S.sz, fun j d e' => ?_, fun j u y e' hy => ?_, fun j k u u' y y' q ne e1 k1 e2 k2 => ?_, S.brs, S.bt, S.ext, S.ht, fun a u e => sm a u (S.f0 a u e), fun a e' => ?_, fun a u e' => ?_, S.tb.keep sm fun _ _ e => e, fun a u e => ?_⟩, hσ, hdp⟩
  · intro a u e'
    by_cases q : a = p
    · rw [q, upd_same] at e'; cases e'; rw [q]; exact hH
    · rw [upd_ne q] at e'; exact S.sub _ _ e'
  · by_cases ij : i = j
    · subst ij
      rw [List.getElem?_set_self hi] at e'; cases e'
      exact ⟨_, hσ, hdp⟩
    · rw [List.getElem?_set_ne ij] at e'
      obtain ⟨x, h1, h2⟩ := S.fz j d e'
      exact ⟨x, h1, dp_mono sm _ _ h2⟩
  · obtain ⟨ij, e'⟩ := back e' hy
    obtain ⟨q, ys, h1, h2, h3, h4, h5⟩ := S.ow j u y e' hy
    have ne : q ≠ p := fun z => S.dist i j v u w y p ij e hw e' hy hσ (by rw [h1, z])
    exact ⟨q, ys, h1, by rw [upd_ne ne]; exact h2, h3, h4.mono sm, h5⟩
  · exact S.dist j k u u' y y' q ne (back e1 k1).2 k1 (back e2 k2).2 k2
  · by_cases q : a = p
    · subst q
      rcases hb with hb | hb
      · exact .inr (.inr ⟨_, hb, rfl⟩)
      · exact .inr (.inl hb)
    · rw [upd_ne q] at e'; exact S.new a e'
  · obtain ⟨h1, h2, h3, h4⟩ := S.zp a u e'
    have ne : a ≠ p := fun z => h4 i v w e hw (by rw [z]; exact hσ)
    exact ⟨h1, by rw [upd_ne ne]; exact h2, h3, fun j u y e2 hy => h4 j u y (back e2 hy).2 hy⟩
  · by_cases q : a = p
    · rw [q, upd_same] at e; cases e; exact hd.ntbl
    · rw [upd_ne q] at e; exact S.nt a u e
/-- a value is put into a slot -/
theorem Sim.put {i : Nat} {v : Val} {x : V} (S : Sim C F ρ σ H) (r : RV C F ρ σ H v x) (hb : ∀ q ∈ C.Bs, q.1 ≠ i) : Sim C F (ρ.set i (some v)) (σ.set i (some x)) H := by
  by_cases hi : i < ρ.length
  · have hi' : i < σ.length := by rw [← S.len]; exact hi
    have at_ : ∀ {u : Val}, (ρ.set i (some v))[i]? = some (some u) → u = v := fun {u} e => by
      rw [List.getElem?_set_self hi] at e; cases e; rfl
    refine ⟨by rw [List.length_set, List.length_set]; exact S.len, S.sub, S.sz, fun j d e => ?_, fun j u y e hy => ?_, fun j k u u' y y' q ne e1 k1 e2 k2 e3 => ?_, fun q hq => ?_, S.bt, S.ext, S.ht, S.f0, S.new, fun a u e => ?_, S.tb, S.nt⟩
    · by_cases ij : i = j
      · subst ij
        have := at_ e
        subst this
        exact ⟨x, by rw [List.getElem?_set_self hi'], r⟩
      · rw [List.getElem?_set_ne ij] at e
        rw [List.getElem?_set_ne ij]
        exact S.fz j d e
    · by_cases ij : i = j
      · subst ij
        have := at_ e
        subst this
        rw [rv_own hy] at r
        obtain ⟨p, o, rfl, h1, h2, h3, h4, _, _⟩ := r
        exact ⟨p, o, by rw [List.getElem?_set_self hi'], h1, h2, h3, .inr h4⟩
      · rw [List.getElem?_set_ne ij] at e
        rw [List.getElem?_set_ne ij]
        exact S.ow j u y e hy
    · by_cases ij : i = j
      · subst ij
        have := at_ e1
        subst this
        rw [rv_own k1] at r
        obtain ⟨p, o, rfl, h1, h2, h3, h4, hZ, h5⟩ := r
        rw [List.getElem?_set_ne ne] at e2
        rw [List.getElem?_set_self hi'] at e3
        cases e3
        rw [List.getElem?_set_ne ne]
        exact h5 k u' y' e2 k2
      · rw [List.getElem?_set_ne ij] at e1 e3
        by_cases ik : i = k
        · subst ik
          have := at_ e2
          subst this
          rw [rv_own k2] at r
          obtain ⟨p, o, rfl, h1, h2, h3, h4, hZ, h5⟩ := r
          rw [List.getElem?_set_self hi']
          intro z
          cases z
          exact h5 j u y e1 k1 e3
        · rw [List.getElem?_set_ne ik] at e2
          rw [List.getElem?_set_ne ik]
          exact S.dist j k u u' y y' q ne e1 k1 e2 k2 e3
    · rw [List.getElem?_set_ne (Ne.symm (hb q hq))]
      exact S.brs q hq
    · obtain ⟨h1, h2, h3, h4⟩ := S.zp a u e
      refine ⟨h1, h2, h3, fun j u' y e2 hy => ?_⟩
      by_cases ij : i = j
      · subst ij
        have := at_ e2
        subst this
        rw [rv_own hy] at r
        obtain ⟨p, o, rfl, _, _, _, _, hZ, _⟩ := r
        rw [List.getElem?_set_self hi']
        intro z
        cases z
        rw [hZ] at e; cases e
      · rw [List.getElem?_set_ne ij] at e2
        rw [List.getElem?_set_ne ij]
        exact h4 j u' y e2 hy
  · have hi' : ¬ i < σ.length := by rw [← S.len]; exact hi
    rw [List.set_eq_of_length_le (by omega), List.set_eq_of_length_le (by omega)]
    exact S
/-- a slot is forgotten -/
theorem Sim.drop1 {i : Nat} (S : Sim C F ρ σ H) (hb : ∀ q ∈ C.Bs, q.1 ≠ i) : Sim C F (ρ.set i none) (σ.set i none) H := by
  have ne_of : ∀ {j : Nat} {v : Val}, (ρ.set i none)[j]? = some (some v) → i ≠ j ∧ ρ[j]? = some (some v) := fun {j v} e => by
    by_cases ij : i = j
    · subst ij
      by_cases hi : i < ρ.length
      · rw [List.getElem?_set_self hi] at e; cases e
      · rw [List.getElem?_eq_none (by rw [List.length_set]; omega)] at e; cases e
    · exact ⟨ij, by rw [List.getElem?_set_ne ij] at e; exact e⟩
  refine ⟨by rw [List.length_set, List.length_set]; exact S.len, S.sub, S.sz, fun j d e => ?_, fun j u y e hy => ?_, fun j k u u' y y' q ne e1 k1 e2 k2 e3 => ?_, fun q hq => ?_, S.bt, S.ext, S.ht, S.f0, S.new, fun a u e => ?_, S.tb, S.nt⟩
  · obtain ⟨n, e⟩ := ne_of e
    rw [List.getElem?_set_ne n]; exact S.fz j d e
  · obtain ⟨n, e⟩ := ne_of e
    rw [List.getElem?_set_ne n]; exact S.ow j u y e hy
  · obtain ⟨n1, e1⟩ := ne_of e1
    obtain ⟨n2, e2⟩ := ne_of e2
    rw [List.getElem?_set_ne n1] at e3
    rw [List.getElem?_set_ne n2]
    exact S.dist j k u u' y y' q ne e1 k1 e2 k2 e3
  · rw [List.getElem?_set_ne (Ne.symm (hb q hq))]
    exact S.brs q hq
  · obtain ⟨h1, h2, h3, h4⟩ := S.zp a u e
    refine ⟨h1, h2, h3, fun j u' y e2 hy => ?_⟩
    obtain ⟨n, e2⟩ := ne_of e2
    rw [List.getElem?_set_ne n]
    exact h4 j u' y e2 hy
theorem Sim.wiped (S : Sim C F ρ σ H) : ∀ (vs : List Nat), (∀ q ∈ C.Bs, q.1 ∉ vs) → Sim C F (wipeR ρ vs) (wipe σ vs) H
  | [], _ => S
  | v :: vs, hb => (S.wiped vs fun q hq z => hb q hq (List.mem_cons_of_mem _ z)).drop1 fun q hq z => hb q hq (by rw [z]; exact List.mem_cons_self)
/-- the thing of a slot is changed -/
theorem Sim.changeO {i : Nat} {v u : Val} {w y : Own} {n : HO} (S : Sim C F ρ σ H) (e : ρ[i]? = some (some v)) (hw : v.own = some w) (hσ : σ[i]? = some (some (.ref p))) (hu : u.own = some y) (hn : OwnAt C.K F p n y) (hz : szH n) :
    Sim C F (ρ.set i (some u)) σ (upd H p n) := by
  obtain ⟨p', o, hσ', hF, hH, hd, hb⟩ := S.ow i v w e hw
  rw [hσ] at hσ'; cases hσ'
  have hi : i < ρ.length := (List.getElem?_eq_some_iff.mp e).1
  have back : ∀ {j : Nat} {v : Val}, i ≠ j → (ρ.set i (some u))[j]? = some (some v) → ρ[j]? = some (some v) := fun {j v} ij e' => by
    rw [List.getElem?_set_ne ij] at e'; exact e'
  have at_ : ∀ {u' : Val}, (ρ.set i (some u))[i]? = some (some u') → u' = u := fun {u'} e => by
    rw [List.getElem?_set_self hi] at e; cases e; rfl
  have isow : ∀ {j : Nat} {u' : Val} {z : Own}, (ρ.set i (some u))[j]? = some (some u') → u'.own = some z → ∃ u2 z2, ρ[j]? = some (some u2) ∧ u2.own = some z2 := fun {j u' z} e' hz => by
    by_cases ij : i = j
    · subst ij; exact ⟨v, w, e, hw⟩
    · exact ⟨u', z, back ij e', hz⟩
  refine ⟨by rw [List.length_set]; exact S.len, fun a u e' => ?_, S.sz.new hz, fun j d e' => ?_, fun j u' z e' hz' => ?_, fun j k u1 u2 z1 z2 q ne e1 k1 e2 k2 => ?_, S.brs, fun q hq => ?_, fun a u e' hb' ht' => ?_, fun a ps e' => ?_, S.f0, S.new, fun a u e' => ?_, S.tb.keep (Same.refl F) (tb_chg hH hd.ntbl), S.nt⟩
  · have ne : a ≠ p := ne_of_none e' hF
    rw [upd_ne ne]; exact S.sub _ _ e'
  · by_cases ij : i = j
    · subst ij
      have := at_ e'
      subst this
      cases hu
    · exact S.fz j d (back ij e')
  · by_cases ij : i = j
    · subst ij
      have := at_ e'
      subst this
      rw [hu] at hz'
      cases hz'
      exact ⟨p, n, hσ, hF, upd_same, hn, hb⟩
    · obtain ⟨q, zs, h1, h2, h3, h4, h5⟩ := S.ow j u' z (back ij e') hz'
      have ne : q ≠ p := fun t => S.dist i j v u' w z p ij e hw (back ij e') hz' hσ (by rw [h1, t])
      exact ⟨q, zs, h1, h2, by rw [upd_ne ne]; exact h3, h4, h5⟩
  · obtain ⟨g1, y1, f1, l1⟩ := isow e1 k1
    obtain ⟨g2, y2, f2, l2⟩ := isow e2 k2
    exact S.dist j k g1 g2 y1 y2 q ne f1 l1 f2 l2
  · by_cases z : q.2 = p
    · exact ⟨n, by rw [z, upd_same], hn.ntbl⟩
    · obtain ⟨o', e1, e2⟩ := S.bt q hq
      exact ⟨o', by rw [upd_ne z]; exact e1, e2⟩
  · have ne : a ≠ p := fun z => by
      rcases hb with hb | hb
      · exact hb' _ hb z.symm
      · rw [z, hb] at e'; cases e'
    rw [upd_ne ne]; exact S.ext a u e' hb' ht'
  · by_cases z : a = p
    · exact ⟨n, by rw [z, upd_same]⟩
    · obtain ⟨o', e1⟩ := S.ht a ps e'
      exact ⟨o', by rw [upd_ne z]; exact e1⟩
  · obtain ⟨h1, h2, h3, h4⟩ := S.zp a u e'
    have ne : a ≠ p := fun z => h4 i v w e hw (by rw [z]; exact hσ)
    refine ⟨by rw [upd_ne ne]; exact h1, h2, h3, fun j u' z e2 hz' => ?_⟩
    obtain ⟨g1, y1, f1, l1⟩ := isow e2 hz'
    exact h4 j g1 y1 f1 l1
/-- the list of a slot is changed -/
theorem Sim.change {i : Nat} {es : List D} {ys : List V} (S : Sim C F ρ σ H) (e : ρ[i]? = some (some (.ow ds))) (hσ : σ[i]? = some (some (.ref p))) (hy : DqAll C.K F ys es) (hz : es.length ≤ sizeLine) :
    Sim C F (ρ.set i (some (.ow es))) σ (upd H p (.lst ys)) :=
  S.changeO e (w := .lst ds) rfl hσ (u := .ow es) (y := .lst es) rfl ⟨ys, rfl, hy⟩ (by show ys.length ≤ sizeLine; rw [dps_length hy]; exact hz)
theorem Sim.owL {i : Nat} (S : Sim C F ρ σ H) (e : ρ[i]? = some (some (.ow ds))) : ∃ p xs, σ[i]? = some (some (.ref p)) ∧ F p = none ∧ H p = some (.lst xs) ∧ DqAll C.K F xs ds ∧ ((i, p) ∈ C.Bs ∨ C.H0 p = none) := by
  obtain ⟨p, o, h1, h2, h3, ⟨xs, rfl, h4⟩, h5⟩ := S.ow i _ (.lst ds) e rfl
  exact ⟨p, xs, h1, h2, h3, h4, h5⟩
/-- a waiting thing is put aside -/
abbrev Ct.wz (C : Ct) (Z : Hp) : Ct := { C with Z := Z }
theorem Sim.lock (S : Sim C F ρ σ H) (h1 : F p = none) (h2 : H p = some o) (hn : ∀ ps, o ≠ .tbl ps) (h3 : ∀ (i : Nat) (v : Val) (w : Own), ρ[i]? = some (some v) → v.own = some w → σ[i]? ≠ some (some (.ref p))) : Sim (C.wz (upd C.Z p o)) F ρ σ H :=
  ⟨S.len, S.sub, S.sz, S.fz, S.ow, S.dist, S.brs, S.bt, S.ext, S.ht, S.f0, S.new, fun a u e => by
    by_cases q : a = p
    · subst q
      have e' : upd C.Z a o a = some u := e
      rw [upd_same] at e'
      cases e'
      exact ⟨h2, h1, hn, h3⟩
    · have e' : upd C.Z p o a = some u := e
      rw [upd_ne q] at e'
      exact S.zp a u e', S.tb, S.nt⟩
theorem Sim.unlock (S : Sim (C.wz (upd C.Z p o)) F ρ σ H) (hZ : C.Z p = none) : Sim C F ρ σ H ∧ H p = some o ∧ F p = none ∧ ∀ (i : Nat) (v : Val) (w : Own), ρ[i]? = some (some v) → v.own = some w → σ[i]? ≠ some (some (.ref p)) :=
  ⟨⟨S.len, S.sub, S.sz, S.fz, S.ow, S.dist, S.brs, S.bt, S.ext, S.ht, S.f0, S.new, fun a u e => S.zp a u (by
    show upd C.Z p o a = some u
    rw [upd_ne (ne_of_none e hZ)]
    exact e), S.tb, S.nt⟩, by
    obtain ⟨h1, h2, _, h3⟩ := S.zp p o upd_same
    exact ⟨h1, h2, h3⟩⟩
/-- what a looked-at value is -/
def View (C : Ct) (F H : Hp) (x : V) (d : D) : Prop := Dq C.K F x d ∨ ∃ p o w, x = .ref p ∧ d = w.data ∧ H p = some o ∧ OwnAt C.K F p o w
theorem Sim.viewAt {i : Nat} {v : Val} (S : Sim C F ρ σ H) (e : ρ[i]? = some (some v)) : ∃ x, σ[i]? = some (some x) ∧ View C F H x v.data := by
  rcases own_cases v with ⟨d, rfl⟩ | ⟨w, hw⟩
  · obtain ⟨x, h1, h2⟩ := S.fz _ _ e
    exact ⟨x, h1, .inl h2⟩
  · obtain ⟨p, o, h1, h2, h3, h4, _⟩ := S.ow i v w e hw
    exact ⟨_, h1, .inr ⟨p, o, w, rfl, own_data hw, h3, h4⟩⟩
/-- restore the slots at vs -/
theorem restore_get {ρ ρ' : Rho} (hl : ρ'.length = ρ.length) : ∀ (vs : List Nat) (i : Nat), (restore ρ ρ' vs)[i]? = if i ∈ vs ∧ i < ρ.length then some (ρ[i]?.getD none) else ρ'[i]?
  | [], i => by simp [restore]
  | v :: vs, i => by
    have hlen : ∀ ws, (restore ρ ρ' ws).length = ρ.length := fun ws => by
      induction ws with
      | nil => exact hl
      | cons w ws ih => simp [restore, ih]
    unfold restore
    by_cases q : v = i
    · subst q
      by_cases hi : v < ρ.length
      · rw [List.getElem?_set_self (by rw [hlen]; exact hi), if_pos ⟨List.mem_cons_self, hi⟩]
      · rw [if_neg (fun z => hi z.2), List.getElem?_eq_none (by rw [List.length_set, hlen]; omega), List.getElem?_eq_none (by omega)]
    · rw [List.getElem?_set_ne q, restore_get hl vs i]
      have : (i ∈ v :: vs) ↔ i ∈ vs := by simp [List.mem_cons, Ne.symm q]
      simp only [this]
/-- a table has grown: the lambda's code object is new -/
theorem Sim.tabbed {P c : Addr} {q : Str} {ps : Array Value} {more : Array Value} (S : Sim C F ρ σ H) (hP : H P = some (.tbl ps)) (hc : H c = none) (hT : ∀ z ∈ C.T, z.1 = P → z.2 = q) (tr : TriplesOk (ps ++ more).toList)
    (among : ∀ pos cv, codeAmong pos (ps ++ more).toList = some cv → codeAmong pos ps.toList = some cv ∨ cv = .ref c) :
    Sim C (upd F c (CodeO c q)) ρ σ (upd (upd H P (.tbl (ps ++ more))) c (CodeO c q)) := by
  have nPc : P ≠ c := ne_of_none hP hc
  have hFP : F P = none := by
    cases e : F P with
    | none => rfl
    | some o =>
      have := S.sub _ _ e
      rw [hP] at this
      cases this
      exact absurd rfl (S.nt P _ e ps)
  have hFc := S.free hc
  have sm : Same F (upd F c (CodeO c q)) := same_new hFc
  have at_ : ∀ {b u}, H b = some u → (∀ ps, u ≠ .tbl ps) → upd (upd H P (.tbl (ps ++ more))) c (CodeO c q) b = some u := fun {b u} e hn => by
    have n1 : b ≠ c := ne_of_none e hc
    have n2 : b ≠ P := fun z => by rw [z, hP] at e; cases e; exact hn _ rfl
    rw [upd_ne n1, upd_ne n2]; exact e
  have some_ : ∀ {b u}, H b = some u → ∃ u', upd (upd H P (.tbl (ps ++ more))) c (CodeO c q) b = some u' := fun {b u} e => by
    by_cases n1 : b = c
    · exact ⟨_, by rw [n1, upd_same]⟩
    · by_cases n2 : b = P
      · exact ⟨_, by rw [upd_ne n1, n2, upd_same]⟩
      · exact ⟨u, by rw [upd_ne n1, upd_ne n2]; exact e⟩
  have cn : ∀ ps, CodeO c q ≠ .tbl ps := LamX.codeO_ne
  refine ⟨S.len, fun a u e => ?_, (S.sz.new (o := .tbl (ps ++ more)) trivial).new (show szH (CodeO c q) from trivial), fun i d e => ?_, fun i v w e hw => ?_, S.dist, S.brs, fun z hz => ?_, fun a u e hb ht => at_ (S.ext a u e hb ht) ht, fun a qs e => ?_, fun a u e => sm a u (S.f0 a u e), fun a e => ?_, fun a u e => ?_, fun z hz => ?_, fun a u e => ?_⟩
  · by_cases z : a = c
    · rw [z, upd_same] at e ⊢; exact e
    · rw [upd_ne z] at e
      exact at_ (S.sub _ _ e) (S.nt _ _ e)
  · obtain ⟨x, h1, h2⟩ := S.fz i d e
    exact ⟨x, h1, dp_mono sm _ _ h2⟩
  · obtain ⟨p, o, h1, h2, h3, h4, h5⟩ := S.ow i v w e hw
    exact ⟨p, o, h1, by rw [upd_ne (ne_of_none h3 hc)]; exact h2, at_ h3 h4.ntbl, h4.mono sm, h5⟩
  · obtain ⟨o, e1, e2⟩ := S.bt z hz
    exact ⟨o, at_ e1 e2, e2⟩
  · obtain ⟨o, e1⟩ := S.ht a qs e
    exact some_ e1
  · by_cases z : a = c
    · subst z; exact .inr (.inl (S.free0 hc))
    · rw [upd_ne z] at e; exact S.new a e
  · obtain ⟨h1, h2, h3, h4⟩ := S.zp a u e
    exact ⟨at_ h1 h3, by rw [upd_ne (ne_of_none h1 hc)]; exact h2, h3, h4⟩
  · obtain ⟨qs, h1, h2, h3⟩ := S.tb z hz
    by_cases hb : z.1 = P
    · rw [hb, hP] at h1
      cases h1
      refine ⟨_, by rw [hb, upd_ne nPc, upd_same], tr, fun pos cv hcv => ?_⟩
      rcases among pos cv hcv with k | k
      · obtain ⟨c0, e1, e2⟩ := h3 pos cv k
        exact ⟨c0, e1, sm _ _ e2⟩
      · exact ⟨c, k, by rw [upd_same, hT z hz hb]⟩
    · refine ⟨qs, by rw [upd_ne (ne_of_none h1 hc), upd_ne hb]; exact h1, h2, fun pos cv hcv => ?_⟩
      obtain ⟨c0, e1, e2⟩ := h3 pos cv hcv
      exact ⟨c0, e1, sm _ _ e2⟩
  · by_cases z : a = c
    · rw [z, upd_same] at e; cases e; exact cn
    · rw [upd_ne z] at e; exact S.nt a u e
theorem Sim.tabs (S : Sim C F ρ σ H) : Tabs C.T H := fun z hz => by
  obtain ⟨ps, h1, h2, h3⟩ := S.tb z hz
  refine ⟨ps, h1, h2, fun pos cv hcv => ?_⟩
  obtain ⟨c, e1, e2⟩ := h3 pos cv hcv
  exact ⟨c, e1, S.sub _ _ e2⟩
end
end FK

/-! FkC: readings: expressions. -/
namespace FK
open PySem L2

/-- what is wanted of an exception that leaves: its class, its data, the env, the fast part, the slots -/
abbrev Wish := Str → List D → Rho → Hp → St → Prop
def WM (W : Wish) : Prop := ∀ c ds ρ F F' σ σ', Same F F' → W c ds ρ F σ → W c ds ρ F' σ'
def Pst {α : Type} (W : Wish) (F : Hp) (σ : St) (r : R α) (k : α → Rho → Prop) : Prop :=
  match r with
  | .ok a ρ => k a ρ
  | .exc c ds ρ => W c ds ρ F σ
  | .bad => False
section
variable {α β : Type} {W : Wish} {F F' : Hp} {σ σ' : St} {r : R α} {k k' : α → Rho → Prop} {m : M α} {g : α → M β} {ρ : Rho} {P : β → Rho → Prop}
theorem Pst.bnd : Pst W F σ (bnd m g ρ) P ↔ Pst W F σ (m ρ) fun a ρ1 => Pst W F σ (g a ρ1) P := by
  unfold Pst FK.bnd
  cases m ρ <;> exact Iff.rfl
theorem Pst.imp (h : Pst W F σ r k) (i : ∀ a ρ, k a ρ → k' a ρ) : Pst W F σ r k' := by
  unfold Pst at *
  cases r with
  | ok a ρ => exact i _ _ h
  | exc c ds ρ => exact h
  | bad => exact h
theorem Pst.mono (wm : WM W) (s : Same F F') (h : Pst W F σ r k) : Pst W F' σ r k := by
  unfold Pst at *
  cases r with
  | ok a ρ => exact h
  | exc c ds ρ => exact wm _ _ _ _ _ _ _ s h
  | bad => exact h
theorem Pst.monoS (wm : WM W) (s : Same F F') (h : Pst W F σ r k) : Pst W F' σ' r k := by
  unfold Pst at *
  cases r with
  | ok a ρ => exact h
  | exc c ds ρ => exact wm _ _ _ _ _ _ _ s h
  | bad => exact h
theorem bnd_assoc {γ : Type} (m : M α) (g : α → M β) (k : β → M γ) : FK.bnd (FK.bnd m g) k = FK.bnd m fun a => FK.bnd (g a) k := by
  funext ρ
  unfold FK.bnd
  cases m ρ <;> rfl
theorem Pst.lift {o : Option α} (h : Pst W F σ (FK.lift o ρ) k) : ∃ a, o = some a ∧ k a ρ := by
  cases o with
  | none => exact False.elim h
  | some a => exact ⟨a, rfl, h⟩
end

section
variable {X : Cx} {e : Expr} {t t' : TE} {σ : St} {H : Hp}
theorem PE.imp (h : PE X e t) (i : ∀ σ H Q, t' σ H Q → t σ H Q) : PE X e t' := ⟨fun pins s σ H Q I q => h.run pins s σ H Q I (i _ _ _ q)⟩
theorem PT.imp {t t' : TT} (h : PT X e t) (i : ∀ σ H Q, t' σ H Q → t σ H Q) : PT X e t' := ⟨fun pins s σ H Q I q => h.run pins s σ H Q I (i _ _ _ q)⟩
theorem PW.imp {t t' : TT} (h : PW X e t) (i : ∀ σ H Q, t' σ H Q → t σ H Q) : PW X e t' := ⟨fun whole pins s σ H Q I q => h.run whole pins s σ H Q I (i _ _ _ q)⟩
theorem PA.imp {es : List Expr} {t t' : TA} (h : PA X es t) (i : ∀ σ H Q, t' σ H Q → t σ H Q) : PA X es t' := ⟨fun pos pins s σ H Q I q => h.run pos pins s σ H Q I (i _ _ _ q)⟩
theorem PS.imp {st : Stmt} {t t' : TS} (h : PS X st t) (i : ∀ D σ H, t' D σ H → t D σ H) : PS X st t' := ⟨fun pins s σ H D I q => h.run pins s σ H D I (i _ _ _ q)⟩
theorem PSs.imp {st : List Stmt} {t t' : TS} (h : PSs X st t) (i : ∀ D σ H, t' D σ H → t D σ H) : PSs X st t' := ⟨fun pins s σ H D I q => h.run pins s σ H D I (i _ _ _ q)⟩
theorem PG.imp {tg : Expr} {t t' : TG} (h : PG X tg t) (i : ∀ v σ H Q, t' v σ H Q → t v σ H Q) : PG X tg t' := ⟨fun pins s σ H v u Q I r q => h.run pins s σ H v u Q I r (i _ _ _ _ q)⟩
theorem PI.imp {tg it : Expr} {t t' : TI} (h : PI X tg it t) (i : ∀ σ H R, t' σ H R → t σ H R) : PI X tg it t' := ⟨fun pins s σ H R I q => h.run pins s σ H R I (i _ _ _ q)⟩
end

/-! ### the readings -/
def rd (C : Ct) (W : Wish) (m : M Val) : TE := fun σ H Q => ∃ F ρ, Sim C F ρ σ H ∧ Pst W F σ (m ρ) fun v ρ' => ∀ F' H' x, Same F F' → Sim C F' ρ' σ H' → RV C F' ρ' σ H' v x → Q x H'
def rdT (C : Ct) (W : Wish) (m : M Bool) : TT := fun σ H Q => ∃ F ρ, Sim C F ρ σ H ∧ Pst W F σ (m ρ) fun b ρ' => ∀ F' H', Same F F' → Sim C F' ρ' σ H' → Q b H'
/-- an operand that was asked -/
def Got (C : Ct) (F : Hp) (σ : St) : Opd → Option D → V → Prop
  | .nm i, _, x => σ[i]? = some (some x)
  | .ex _, o, x => ∃ d, o = some d ∧ Dq C.K F x d
def rdO (C : Ct) (W : Wish) : Opd → TE
  | .nm i => tVar i
  | .ex m => rd C W m
section
variable {C : Ct} {W : Wish} {F F' H : Hp} {ρ ρ' : Rho} {σ : St} {x y : V} {v : Val}
theorem Got.mono (s : Same F F') : ∀ {a : Opd} {o : Option D}, Got C F σ a o x → Got C F' σ a o x
  | .nm _, _, h => h
  | .ex _, _, ⟨d, e, h⟩ => ⟨d, e, dp_mono s _ _ h⟩
theorem View.mono {H' : Hp} {d : D} (s : Same F F') (h : Dq C.K F x d) : View C F' H' x d := .inl (dp_mono s _ _ h)
theorem peek_of {i : Nat} {k : D → Rho → Prop} (h : Pst W F σ (peek i ρ) k) : ∃ v, ρ[i]? = some (some v) ∧ k v.data ρ := by
  unfold peek at h
  cases e : ρ[i]? with
  | none => rw [e] at h; exact False.elim h
  | some o =>
    cases o with
    | none => rw [e] at h; exact False.elim h
    | some v => rw [e] at h; exact ⟨v, rfl, h⟩
theorem opd_run (wm : WM W) {β : Type} {a : Opd} {k : Option D → M β} {P : β → Rho → Prop} {Rk : V → Hp → Prop} (S : Sim C F ρ σ H) (h : Pst W F σ (bnd a.run k ρ) P)
    (i : ∀ F1 H1 x o ρ1, Same F F1 → Sim C F1 ρ1 σ H1 → Got C F1 σ a o x → Pst W F1 σ (k o ρ1) P → Rk x H1) : rdO C W a σ H Rk := by
  cases a with
  | nm j =>
    have h := Pst.bnd.mp h
    unfold Opd.run at h
    have h := Pst.bnd.mp h
    obtain ⟨v, e, h⟩ := peek_of h
    obtain ⟨x, e1, _⟩ := S.viewAt e
    exact ⟨x, e1, i F H x none ρ (Same.refl F) S e1 h⟩
  | ex m =>
    have h := Pst.bnd.mp h
    unfold Opd.run at h
    have h := Pst.bnd.mp h
    refine ⟨F, ρ, S, h.imp fun v ρ1 h1 F1 H1 x sm S1 r1 => ?_⟩
    obtain ⟨F2, s2, S2, d2⟩ := S1.freeze r1
    exact i F2 H1 x (some v.data) ρ1 (sm.trans s2) S2 ⟨_, rfl, d2⟩ (Pst.mono wm (sm.trans s2) h1)
theorem opd_get {β : Type} {a : Opd} {o : Option D} {k : D → M β} {P : β → Rho → Prop} (S : Sim C F ρ σ H) (g : Got C F σ a o x) (h : Pst W F σ (bnd (a.get o) k ρ) P) : ∃ d, View C F H x d ∧ Pst W F σ (k d ρ) P := by
  cases a with
  | nm j =>
    have h : Pst W F σ (bnd (peek j) k ρ) P := h
    have h := Pst.bnd.mp h
    obtain ⟨v, e, h⟩ := peek_of h
    obtain ⟨x', e1, w⟩ := S.viewAt e
    have g' : σ[j]? = some (some x) := g
    rw [g'] at e1
    cases e1
    exact ⟨_, w, h⟩
  | ex m =>
    obtain ⟨d, rfl, q⟩ := g
    exact ⟨d, .inl q, h⟩

/-! ### operations by two operands -/
abbrev Kont (C : Ct) (F : Hp) (ρ : Rho) (σ : St) (v : Val) (Q : VK) : Prop := ∀ F' H' z, Same F F' → Sim C F' ρ σ H' → RV C F' ρ σ H' v z → Q z H'
def OpS (C : Ct) (r : R2) (f : D → D → Option Val) : Prop := ∀ (F : Hp) (ρ : Rho) (σ : St) (H : Hp) (x y : V) (d e : D) (v : Val) (Q : VK),
  Sim C F ρ σ H → View C F H x d → View C F H y e → f d e = some v → Kont C F ρ σ v Q → r x y H Q
def UnS (C : Ct) (r : V → Hp → VK → Prop) (f : D → Option Val) : Prop := ∀ (F : Hp) (ρ : Rho) (σ : St) (H : Hp) (x : V) (d : D) (v : Val) (Q : VK),
  Sim C F ρ σ H → View C F H x d → f d = some v → Kont C F ρ σ v Q → r x H Q
theorem bin_go (wm : WM W) {r : R2} {f : D → D → Option Val} {a b : Opd} {Q : VK} (hs : OpS C r f) (h : rd C W (mBin f a b) σ H Q) : tOp r (rdO C W a) (rdO C W b) σ H Q := by
  obtain ⟨F, ρ, S, h⟩ := h
  refine opd_run wm S h fun F1 H1 x o ρ1 s1 S1 g1 h1 => ?_
  refine opd_run wm S1 h1 fun F2 H2 y o2 ρ2 s2 S2 g2 h2 => ?_
  obtain ⟨d, w1, h3⟩ := opd_get S2 (g1.mono s2) h2
  obtain ⟨e, w2, h4⟩ := opd_get S2 g2 h3
  obtain ⟨v, e1, q⟩ := h4.lift
  exact hs F2 ρ2 σ H2 x y d e v Q S2 w1 w2 e1 fun F' H' z s S' r' => q F' H' z ((s1.trans s2).trans s) S' r'
theorem un_go (wm : WM W) {r : V → Hp → VK → Prop} {f : D → Option Val} {a : Opd} {Q : VK} (hs : UnS C r f) (h : rd C W (mUn f a) σ H Q) : tUn r (rdO C W a) σ H Q := by
  obtain ⟨F, ρ, S, h⟩ := h
  refine opd_run wm S h fun F1 H1 x o ρ1 s1 S1 g1 h1 => ?_
  obtain ⟨d, w1, h3⟩ := opd_get S1 g1 h1
  obtain ⟨v, e1, q⟩ := h3.lift
  exact hs F1 ρ1 σ H1 x d v Q S1 w1 e1 fun F' H' z s S' r' => q F' H' z (s1.trans s) S' r'
end

section
variable {X : Cx} {C : Ct} {W : Wish} {a b : Expr} {oa ob : Opd} {pos : Pos} {r : R2} {f : D → D → Option Val}
theorem fe_bin (wm : WM W) {op : Operator} (ho : OpR X (binaryOp op) r) (hs : OpS C r f) (ha : PE X a (rdO C W oa)) (hb : PE X b (rdO C W ob)) : PE X (.BinOp a op b pos) (rd C W (mBin f oa ob)) :=
  PE.imp (pe_op ho ha hb) fun _ _ _ h => bin_go wm hs h
theorem fe_cmp (wm : WM W) {op : CmpOp} (ho : OpR X (compareOp op) r) (hs : OpS C r f) (ha : PE X a (rdO C W oa)) (hb : PE X b (rdO C W ob)) (hm : behindInMarks op b = false) : PE X (.Compare a [op] [b] pos) (rd C W (mBin f oa ob)) :=
  PE.imp (pe_cmpR ho ha hb hm) fun _ _ _ h => bin_go wm hs h
theorem fe_un (wm : WM W) {op : UnaryOp} {r : V → Hp → VK → Prop} {f : D → Option Val} (ho : UnR X (unaryOp op) r) (hs : UnS C r f) (ha : PE X a (rdO C W oa)) : PE X (.UnaryOp op a pos) (rd C W (mUn f oa)) :=
  PE.imp (pe_un ho ha) fun _ _ _ h => un_go wm hs h
theorem fe_ix (wm : WM W) (ho : IxR X r) (hs : OpS C r f) (ha : PE X a (rdO C W oa)) (hb : PE X b (rdO C W ob)) (hp : PlainIx b) : PE X (.Subscript a b pos) (rd C W (mBin f oa ob)) :=
  PE.imp (pe_ix ho ha hb hp) fun _ _ _ h => bin_go wm hs h
/-- a test that a comparison is -/
def asT (m : M Val) : M Bool := bnd m fun v => lift (asBool v.data)
theorem asT_go {σ : St} {H : Hp} {m : M Val} {t : TE} {Q : Bool → Hp → Prop} (h : rdT C W (asT m) σ H Q) (i : ∀ Q, rd C W m σ H Q → t σ H Q) : tTest t σ H Q := by
  obtain ⟨F, ρ, S, h⟩ := h
  have h := Pst.bnd.mp h
  refine i _ ⟨F, ρ, S, h.imp fun v ρ' q F' H' x s S' r => ?_⟩
  obtain ⟨b, e, q⟩ := q.lift
  cases v with
  | ow ds => cases e
  | od kvs => cases e
  | fz d =>
    cases d <;> first | cases e | skip
    cases r
    exact ⟨_, rfl, q F' H' s S'⟩
theorem ft_cmp (wm : WM W) {op : CmpOp} (ho : OpR X (compareOp op) r) (hs : OpS C r f) (ha : PE X a (rdO C W oa)) (hb : PE X b (rdO C W ob)) (hm : behindInMarks op b = false) : PT X (.Compare a [op] [b] pos) (rdT C W (asT (mBin f oa ob))) :=
  PT.imp (pt_cmpR ho ha hb hm) fun _ _ _ h => asT_go h fun _ q => bin_go wm hs q
end

/-! ### names, constants -/
section
variable {X : Cx} {C : Ct} {W : Wish} {e : Expr} {pos : Pos}
theorem rd_c {x : V} {d : D} (h : ∀ F, Dq C.K F x d) {σ : St} {H : Hp} {Q : VK} (q : rd C W (mC d) σ H Q) : tC x σ H Q := by
  obtain ⟨F, ρ, S, q⟩ := q
  exact q F H x (Same.refl F) S (h F)
theorem fe_int {i j pos} : PE X (.Constant (.int i) j pos) (rd C W (mC (.int i))) := PE.imp pe_int fun _ _ _ q => rd_c (fun _ => .int i) q
theorem fe_bl {b j pos} : PE X (.Constant (.bool b) j pos) (rd C W (mC (.bool b))) := PE.imp pe_bl fun _ _ _ q => rd_c (fun _ => .bl b) q
theorem fe_non {j pos} : PE X (.Constant .none j pos) (rd C W (mC .none)) := PE.imp pe_non fun _ _ _ q => rd_c (fun _ => .non) q
theorem fe_str {x j pos} : PE X (.Constant (.str x) j pos) (rd C W (mC (.str x))) := PE.imp pe_str fun _ _ _ q => rd_c (fun _ => .str x) q
theorem rd_v {i : Nat} {σ : St} {H : Hp} {Q : VK} (q : rd C W (mV i) σ H Q) : tVar i σ H Q := by
  obtain ⟨F, ρ, S, q⟩ := q
  unfold mV at q
  split at q
  · rename_i d e
    obtain ⟨x, h1, h2⟩ := S.fz _ _ e
    exact ⟨x, h1, q F H x (Same.refl F) S h2⟩
  · rename_i ds e
    obtain ⟨F', p, s, S', h1, h2⟩ := S.freezeAt e (w := .lst ds) rfl
    exact ⟨_, h1, q F' H _ s S' h2⟩
  · rename_i kvs e
    obtain ⟨F', p, s, S', h1, h2⟩ := S.freezeAt e (w := .dic kvs) rfl
    exact ⟨_, h1, q F' H _ s S' h2⟩
  · exact False.elim q
theorem fe_v {i : Nat} (h : PE X e (tVar i)) : PE X e (rd C W (mV i)) := PE.imp h fun _ _ _ q => rd_v q
/-- an operand that is any expression -/
theorem fo_ex {m : M Val} (h : PE X e (rd C W m)) : PE X e (rdO C W (.ex m)) := h
theorem fo_nm {i : Nat} (h : PE X e (tVar i)) : PE X e (rdO C W (.nm i)) := h
end

/-! ### lists of operands -/
def Gots (C : Ct) (F : Hp) (σ : St) : List Opd → List (Option D) → List V → Prop
  | [], [], [] => True
  | a :: as, o :: os, x :: xs => Got C F σ a o x ∧ Gots C F σ as os xs
  | _, _, _ => False
inductive Views (C : Ct) (F H : Hp) : List V → List D → Prop
  | nil : Views C F H [] []
  | cons {x : V} {xs : List V} {d : D} {ds : List D} : View C F H x d → Views C F H xs ds → Views C F H (x :: xs) (d :: ds)
def tOpds (C : Ct) (W : Wish) : List Opd → TA
  | [] => tNil
  | a :: as => tCons (rdO C W a) (tOpds C W as)
section
variable {C : Ct} {W : Wish} {F F' H : Hp} {σ : St}
theorem Gots.mono (s : Same F F') : ∀ {as : List Opd} {os : List (Option D)} {xs : List V}, Gots C F σ as os xs → Gots C F' σ as os xs
  | [], [], [], _ => trivial
  | [], [], _ :: _, h => h.elim
  | [], _ :: _, _, h => h.elim
  | _ :: _, [], _, h => h.elim
  | _ :: _, _ :: _, [], h => h.elim
  | _ :: _, _ :: _, _ :: _, ⟨h1, h2⟩ => ⟨h1.mono s, h2.mono s⟩
theorem runs_go (wm : WM W) {β : Type} {P : β → Rho → Prop} : ∀ (as : List Opd) {F H : Hp} {ρ : Rho} {k : List (Option D) → M β} {Rk : List V → Hp → Prop}, Sim C F ρ σ H → Pst W F σ (bnd (runs as) k ρ) P →
    (∀ F1 H1 xs os ρ1, Same F F1 → Sim C F1 ρ1 σ H1 → Gots C F1 σ as os xs → Pst W F1 σ (k os ρ1) P → Rk xs H1) → tOpds C W as σ H Rk
  | [], F, H, ρ, k, Rk, S, h, i => i F H [] [] ρ (Same.refl F) S trivial h
  | a :: as, F, H, ρ, k, Rk, S, h, i => by
    simp only [runs, bnd_assoc, bnd_ret] at h
    refine opd_run wm S h fun F1 H1 x o ρ1 s1 S1 g1 h1 => ?_
    refine runs_go wm as S1 h1 fun F2 H2 xs os ρ2 s2 S2 g2 h2 => ?_
    exact i F2 H2 (x :: xs) (o :: os) ρ2 (s1.trans s2) S2 ⟨g1.mono s2, g2⟩ h2
theorem gets_go {β : Type} {P : β → Rho → Prop} : ∀ (as : List Opd) {os : List (Option D)} {xs : List V} {F H : Hp} {ρ : Rho} {k : List D → M β}, Sim C F ρ σ H → Gots C F σ as os xs → Pst W F σ (bnd (gets as os) k ρ) P →
    ∃ ds, Views C F H xs ds ∧ Pst W F σ (k ds ρ) P
  | [], [], [], F, H, ρ, k, S, g, h => ⟨[], .nil, h⟩
  | [], [], _ :: _, _, _, _, _, _, g, _ => g.elim
  | [], _ :: _, _, _, _, _, _, _, g, _ => g.elim
  | _ :: _, [], _, _, _, _, _, _, g, _ => g.elim
  | _ :: _, _ :: _, [], _, _, _, _, _, g, _ => g.elim
  | a :: as, o :: os, x :: xs, F, H, ρ, k, S, ⟨g1, g2⟩, h => by
    simp only [gets, bnd_assoc, bnd_ret] at h
    obtain ⟨d, w1, h1⟩ := opd_get S g1 h
    obtain ⟨ds, w2, h2⟩ := gets_go as S g2 h1
    exact ⟨d :: ds, .cons w1 w2, h2⟩
end
def CaS (C : Ct) (r : List V → Hp → VK → Prop) (f : List D → Option Val) : Prop := ∀ (F : Hp) (ρ : Rho) (σ : St) (H : Hp) (xs : List V) (ds : List D) (v : Val) (Q : VK),
  Sim C F ρ σ H → Views C F H xs ds → f ds = some v → Kont C F ρ σ v Q → r xs H Q
section
variable {X : Cx} {C : Ct} {W : Wish} {pos p : Pos}
theorem fn_go (wm : WM W) {r : List V → Hp → VK → Prop} {f : List D → Option Val} {as : List Opd} {σ : St} {H : Hp} {Q : VK} (hs : CaS C r f) (h : rd C W (mFn f as) σ H Q) : tCB r (tOpds C W as) σ H Q := by
  obtain ⟨F, ρ, S, h⟩ := h
  refine runs_go wm as S h fun F1 H1 xs os ρ1 s1 S1 g1 h1 => ?_
  obtain ⟨ds, w, h2⟩ := gets_go as S1 g1 h1
  obtain ⟨v, e1, q⟩ := h2.lift
  exact hs F1 ρ1 σ H1 xs ds v Q S1 w e1 fun F' H' z s S' r' => q F' H' z (s1.trans s) S' r'
theorem fe_blt (wm : WM W) {r : List V → Hp → VK → Prop} {f : List D → Option Val} {as : List Opd} {id : String} {x : Str} {e : Expr} {es : List Expr} (hc : CallR X (.builtin id) r) (hs : CaS C r f) (hg : Gl X x) (hm : X.mg x = none) (hv : bootBuiltins x = some (.builtin id))
    (hn : x ≠ "__name__") (hd : (x == ("__debug__" : Str)) = false) (ha : PA X (e :: es) (tOpds C W as)) (h1 : starEach (e :: es) X.env = (false, eval e X.env) :: starEach es X.env) (h2 : (backTo pos (starEach es X.env)).any (·.1) = false) : PE X (.Call (.Name x p) (e :: es) [] pos) (rd C W (mFn f as)) :=
  PE.imp (pe_callB hc hg hm hv ha hn hd h1 h2) fun _ _ _ h => fn_go wm hs h
theorem fe_ty (wm : WM W) {r : List V → Hp → VK → Prop} {f : List D → Option Val} {as : List Opd} {T : String} {x : Str} {e : Expr} {es : List Expr} (hc : CallR X (.type T) r) (hs : CaS C r f) (hg : Gl X x) (hm : X.mg x = none) (hv : bootBuiltins x = some (.type T))
    (hn : x ≠ "__name__") (hd : (x == ("__debug__" : Str)) = false) (ha : PA X (e :: es) (tOpds C W as)) (h1 : starEach (e :: es) X.env = (false, eval e X.env) :: starEach es X.env) (h2 : (backTo pos (starEach es X.env)).any (·.1) = false) : PE X (.Call (.Name x p) (e :: es) [] pos) (rd C W (mFn f as)) :=
  PE.imp (pe_callTy hc hg hm hv ha hn hd h1 h2) fun _ _ _ h => fn_go wm hs h
end

/-! ### displays -/
def tItems (C : Ct) (W : Wish) : List (Bool × M Val) → TA
  | [] => tNil
  | (false, m) :: es => tCons (rd C W m) (tItems C W es)
  | (true, m) :: es => StX.tStar C.K (rd C W m) (tItems C W es)
section
variable {C : Ct} {W : Wish} {σ : St}
theorem seq_of {F : Hp} {x : V} {d : D} {ds : List D} (h : Dq C.K F x d) (e : seqOf d = some ds) : ∃ p xs, x = .ref p ∧ (SqT C.K F p xs ∨ SqL C.K F p xs) ∧ DqAll C.K F xs ds := by
  cases d <;> first | cases e | skip
  · cases h with
    | lst q qs => exact ⟨_, _, rfl, .inr q, qs⟩
  · cases h with
    | tup q qs => exact ⟨_, _, rfl, .inl q.sq, qs⟩
theorem items_go (wm : WM W) {β : Type} {P : β → Rho → Prop} : ∀ (es : List (Bool × M Val)) {F H : Hp} {ρ : Rho} {k : List D → M β} {Rk : List V → Hp → Prop}, Sim C F ρ σ H → Pst W F σ (bnd (mItems es) k ρ) P →
    (∀ F1 H1 xs ds ρ1, Same F F1 → Sim C F1 ρ1 σ H1 → DqAll C.K F1 xs ds → Pst W F1 σ (k ds ρ1) P → Rk xs H1) → tItems C W es σ H Rk
  | [], F, H, ρ, k, Rk, S, h, i => i F H [] [] ρ (Same.refl F) S .nil h
  | (false, m) :: es, F, H, ρ, k, Rk, S, h, i => by
    simp only [mItems, bnd_assoc, bnd_ret] at h
    have h := Pst.bnd.mp h
    refine ⟨F, ρ, S, h.imp fun v ρ1 h1 F1 H1 x sm S1 r1 => ?_⟩
    obtain ⟨F2, s2, S2, d2⟩ := S1.freeze r1
    have h1 := Pst.mono wm (sm.trans s2) h1
    refine items_go wm es S2 h1 fun F3 H3 xs ds ρ3 s3 S3 g3 h3 => ?_
    exact i F3 H3 (x :: xs) (v.data :: ds) ρ3 ((sm.trans s2).trans s3) S3 (.cons (dp_mono s3 _ _ d2) g3) h3
  | (true, m) :: es, F, H, ρ, k, Rk, S, h, i => by
    simp only [mItems, bnd_assoc, bnd_ret] at h
    have h := Pst.bnd.mp h
    refine ⟨F, ρ, S, h.imp fun v ρ1 h1 F1 H1 x sm S1 r1 => ?_⟩
    obtain ⟨F2, s2, S2, d2⟩ := S1.freeze r1
    have h1 := Pst.mono wm (sm.trans s2) h1
    have h1 := Pst.bnd.mp h1
    obtain ⟨ds0, e0, h1⟩ := h1.lift
    obtain ⟨p, xs0, rfl, hq, hd⟩ := seq_of d2 e0
    refine ⟨p, xs0, rfl, hq.elim (fun q => .inl (sqT_mono S2.sub q)) (fun q => .inr (sqL_mono S2.sub q)), ?_⟩
    refine items_go wm es S2 h1 fun F3 H3 xs ds ρ3 s3 S3 g3 h3 => ?_
    exact i F3 H3 (xs0 ++ xs) (ds0 ++ ds) ρ3 ((sm.trans s2).trans s3) S3 (dps_append (dps_mono s3 _ _ hd) g3) h3
theorem szOk_iff {α : Type} {ds : List α} : szOk ds = true ↔ ds.length ≤ sizeLine := by
  unfold szOk
  rw [decide_eq_true_iff, PySem.sizeLine_eq]
theorem tup_go (wm : WM W) {es : List (Bool × M Val)} {H : Hp} {Q : VK} (h : rd C W (mTup es) σ H Q) : tTupF (tItems C W es) σ H Q := by
  obtain ⟨F, ρ, S, h⟩ := h
  refine items_go wm es S h fun F1 H1 xs ds ρ1 s1 S1 g1 h1 => ?_
  by_cases z : szOk ds = true
  · rw [if_pos z] at h1
    have z' := szOk_iff.mp z
    refine ⟨by rw [dps_length g1]; exact z', fun p o hp ho => ?_⟩
    obtain ⟨S2, d2⟩ := S1.tup hp ho g1 z'
    exact h1 _ _ _ (s1.trans (same_new (S1.free hp))) S2 d2
  · rw [if_neg z] at h1
    exact False.elim h1
theorem lst_go (wm : WM W) {es : List (Bool × M Val)} {H : Hp} {Q : VK} (h : rd C W (mLst es) σ H Q) : tLst (tItems C W es) σ H Q := by
  obtain ⟨F, ρ, S, h⟩ := h
  refine items_go wm es S h fun F1 H1 xs ds ρ1 s1 S1 g1 h1 => ?_
  by_cases z : szOk ds = true
  · rw [if_pos z] at h1
    have z' := szOk_iff.mp z
    refine ⟨by rw [dps_length g1]; exact z', fun p hp => ?_⟩
    obtain ⟨S2, d2⟩ := S1.ownRV hp g1 z'
    exact h1 _ _ _ s1 S2 d2
  · rw [if_neg z] at h1
    exact False.elim h1
end
section
variable {X : Cx} {C : Ct} {W : Wish} {pos : Pos} {es : List Expr} {ms : List (Bool × M Val)}
theorem fe_tup (wm : WM W) {x1} (h : PA X es (tItems C W ms)) : PE X (.Tuple es x1 pos) (rd C W (mTup ms)) := PE.imp (pe_tupF h) fun _ _ _ q => tup_go wm q
theorem fe_lst (wm : WM W) (h : PA X es (tItems C W ms)) : PE X (.List es pos) (rd C W (mLst ms)) := PE.imp (pe_lst h) fun _ _ _ q => lst_go wm q
end

/-! ### tests -/
section
variable {X : Cx} {C : Ct} {W : Wish} {a b c e : Expr} {pos : Pos} {ma mb : M Bool} {rest : List Expr}
theorem ft_not (h : PT X a (rdT C W ma)) : PT X (.UnaryOp .Not a pos) (rdT C W (mNot ma)) := PT.imp (pt_not h) fun σ H Q q => by
  obtain ⟨F, ρ, S, q⟩ := q
  have q := Pst.bnd.mp q
  exact ⟨F, ρ, S, q.imp fun b ρ' q => q⟩
theorem and_go (wm : WM W) {σ : St} {H : Hp} {Q : Bool → Hp → Prop} (q : rdT C W (mAnd ma mb) σ H Q) : tAnd (rdT C W ma) (rdT C W mb) σ H Q := by
  obtain ⟨F, ρ, S, q⟩ := q
  have q := Pst.bnd.mp q
  refine ⟨F, ρ, S, q.imp fun b ρ' q F' H' s S' => ?_⟩
  cases b with
  | true =>
    rw [if_pos rfl] at q ⊢
    exact ⟨F', ρ', S', (Pst.mono wm s q).imp fun b ρ2 k F2 H2 s2 S2 => k F2 H2 (s.trans s2) S2⟩
  | false =>
    rw [if_neg (by decide)] at q ⊢
    exact q F' H' s S'
theorem or_go (wm : WM W) {σ : St} {H : Hp} {Q : Bool → Hp → Prop} (q : rdT C W (mOr ma mb) σ H Q) : tOr (rdT C W ma) (rdT C W mb) σ H Q := by
  obtain ⟨F, ρ, S, q⟩ := q
  have q := Pst.bnd.mp q
  refine ⟨F, ρ, S, q.imp fun b ρ' q F' H' s S' => ?_⟩
  cases b with
  | false =>
    rw [if_neg (by decide)] at q ⊢
    exact ⟨F', ρ', S', (Pst.mono wm s q).imp fun b ρ2 k F2 H2 s2 S2 => k F2 H2 (s.trans s2) S2⟩
  | true =>
    rw [if_pos rfl] at q ⊢
    exact q F' H' s S'
theorem fw_and1 (ha : PT X a (rdT C W ma)) : PW X (.BoolOp .And [a] pos) (rdT C W ma) := pw_and1 ha
theorem fw_or1 (ha : PT X a (rdT C W ma)) : PW X (.BoolOp .Or [a] pos) (rdT C W ma) := pw_or1 ha
theorem fw_and (wm : WM W) (ha : PT X a (rdT C W ma)) (hb : PW X (.BoolOp .And (b :: rest) pos) (rdT C W mb)) : PW X (.BoolOp .And (a :: b :: rest) pos) (rdT C W (mAnd ma mb)) := PW.imp (pw_and ha hb) fun _ _ _ q => and_go wm q
theorem fw_or (wm : WM W) (ha : PT X a (rdT C W ma)) (hb : PW X (.BoolOp .Or (b :: rest) pos) (rdT C W mb)) : PW X (.BoolOp .Or (a :: b :: rest) pos) (rdT C W (mOr ma mb)) := PW.imp (pw_or ha hb) fun _ _ _ q => or_go wm q
theorem tru_of {F H : Hp} {x : V} {d : D} {k : Bool} (s : Same F H) (w : View C F H x d) (e : truth d = some k) : TruV C.K x H k := by
  rcases w with w | ⟨p, o, w, rfl, rfl, h1, h2⟩
  · cases d <;> first | cases e | skip
    · cases w; rfl
    · cases w; rfl
    · cases w; rfl
    · cases w with
      | lst q qs =>
        refine .inl ⟨_, sqL_mono s q, ?_⟩
        have := dps_length qs
        rename_i ds p xs
        cases ds <;> cases xs <;> first | rfl | simp at this
    · cases w with
      | tup q qs =>
        refine .inr (.inl ⟨_, sqT_mono s q.sq, ?_⟩)
        have := dps_length qs
        rename_i ds p xs
        cases ds <;> cases xs <;> first | rfl | simp at this
  · cases w with
    | dic kvs => cases e
    | lst ds =>
      obtain ⟨xs, rfl, h2⟩ := h2
      cases e
      refine .inl ⟨xs, .inl (.inl h1), ?_⟩
      have := dps_length h2
      cases ds <;> cases xs <;> first | rfl | simp at this
theorem ft_tr (wm : WM W) {oa : Opd} (hK : C.K = X.K) (ha : PE X a (rdO C W oa)) (he : ∀ whole, isTrue a X.env whole = (do let v ← whole; standAt a.pos; holding [v] (truthy v))) : PT X a (rdT C W (mT oa)) := PT.imp (pt_truth ha he) fun σ H Q q => by
  obtain ⟨F, ρ, S, q⟩ := q
  refine opd_run wm S q fun F1 H1 x o ρ1 s1 S1 g1 h1 => ?_
  obtain ⟨d, w, h2⟩ := opd_get S1 g1 h1
  obtain ⟨k, e, q⟩ := h2.lift
  exact ⟨k, by rw [← hK]; exact tru_of S1.sub w e, q F1 H1 s1 S1⟩
theorem fe_if (wm : WM W) {mc : M Bool} {m n : M Val} (hc : PT X c (rdT C W mc)) (ha : PE X a (rd C W m)) (hb : PE X b (rd C W n)) : PE X (.IfExp c a b pos) (rd C W (mIf mc m n)) := PE.imp (pe_ifExp hc ha hb) fun σ H Q q => by
  obtain ⟨F, ρ, S, q⟩ := q
  have q := Pst.bnd.mp q
  refine ⟨F, ρ, S, q.imp fun t ρ' q F' H' s S' => ?_⟩
  cases t with
  | true =>
    rw [if_pos rfl] at q ⊢
    exact ⟨F', ρ', S', (Pst.mono wm s q).imp fun v ρ2 k F2 H2 x s2 S2 => k F2 H2 x (s.trans s2) S2⟩
  | false =>
    rw [if_neg (by decide)] at q ⊢
    exact ⟨F', ρ', S', (Pst.mono wm s q).imp fun v ρ2 k F2 H2 x s2 S2 => k F2 H2 x (s.trans s2) S2⟩
/-- and, or, not as values -/
theorem bl_go {σ : St} {H : Hp} {m : M Val} {k : Bool → M Val} {Q : VK} {R' : V → Hp → Prop} (q : rd C W (bnd (mBl m) k) σ H Q)
    (i : ∀ F F' H' b ρ', Same F F' → Sim C F' ρ' σ H' → Pst W F σ (k b ρ') (fun v ρ2 => ∀ F2 H2 x, Same F F2 → Sim C F2 ρ2 σ H2 → RV C F2 ρ2 σ H2 v x → Q x H2) → R' (.bl b) H') : rd C W m σ H R' := by
  obtain ⟨F, ρ, S, q⟩ := q
  have q := Pst.bnd.mp q
  unfold mBl at q
  have q := Pst.bnd.mp q
  refine ⟨F, ρ, S, q.imp fun v ρ' q F' H' x s S' r => ?_⟩
  obtain ⟨b, e, q⟩ := q.lift
  cases v with
  | ow ds => cases e
  | od kvs => cases e
  | fz d =>
    cases d <;> first | cases e | skip
    cases r
    exact i F F' H' _ ρ' s S' q
theorem fe_and (wm : WM W) {m n : M Val} (ha : PE X a (rd C W m)) (hb : PE X (.BoolOp .And (b :: rest) pos) (rd C W n)) : PE X (.BoolOp .And (a :: b :: rest) pos) (rd C W (mAndV m n)) := PE.imp (pe_and ha hb) fun σ H Q q => by
  refine bl_go q fun F F' H' b ρ' s S' q => ⟨b, rfl, ?_⟩
  cases b with
  | true => exact ⟨F', ρ', S', (Pst.mono wm s q).imp fun v ρ2 k F2 H2 x s2 S2 => k F2 H2 x (s.trans s2) S2⟩
  | false => exact q F' H' _ s S' (.bl _)
theorem fe_or (wm : WM W) {m n : M Val} (ha : PE X a (rd C W m)) (hb : PE X (.BoolOp .Or (b :: rest) pos) (rd C W n)) : PE X (.BoolOp .Or (a :: b :: rest) pos) (rd C W (mOrV m n)) := PE.imp (pe_or ha hb) fun σ H Q q => by
  refine bl_go q fun F F' H' b ρ' s S' q => ⟨b, rfl, ?_⟩
  cases b with
  | false => exact ⟨F', ρ', S', (Pst.mono wm s q).imp fun v ρ2 k F2 H2 x s2 S2 => k F2 H2 x (s.trans s2) S2⟩
  | true => exact q F' H' _ s S' (.bl _)
end

/-! ### chains -/
theorem asBool_of {v : Val} {k : Bool} (h : asBool v.data = some k) : v = .fz (.bool k) := by
  cases v with
  | ow ds => cases h
  | od kvs => cases h
  | fz d => cases d <;> first | (cases h; rfl) | cases h
section
variable {X : Cx} {C : Ct} {W : Wish} {a b c : Expr} {pos : Pos} {ma mb mc : M Val} {r r' : R2} {f g : D → D → Option Val}
theorem chain_go (wm : WM W) (hs : OpS C r f) (hs' : OpS C r' g) {σ : St} {H : Hp} {Q : VK} (q : rd C W (mChain f g ma mb mc) σ H Q) : tChain r r' (rd C W ma) (rd C W mb) (rd C W mc) σ H Q := by
  obtain ⟨F, ρ, S, q⟩ := q
  refine ⟨F, ρ, S, (Pst.bnd.mp q).imp fun v ρ1 q F1 H1 x s1 S1 r1 => ?_⟩
  obtain ⟨F2, s2, S2, d2⟩ := S1.freeze r1
  refine ⟨F2, ρ1, S2, (Pst.bnd.mp (Pst.mono wm (s1.trans s2) q)).imp fun u ρ2 q F3 H3 y s3 S3 r3 => ?_⟩
  obtain ⟨F4, s4, S4, d4⟩ := S3.freeze r3
  have q := Pst.mono wm (s3.trans s4) q
  obtain ⟨k, e, q⟩ := Pst.lift (Pst.bnd.mp q)
  obtain ⟨z, e1, e2⟩ := Option.bind_eq_some_iff.mp e
  refine hs F4 ρ2 σ H3 x y _ _ z _ S4 (.inl (dp_mono (s3.trans s4) _ _ d2)) (.inl d4) e1 fun F5 H5 w s5 S5 r5 => ?_
  have ez := asBool_of e2
  subst ez
  cases r5
  refine ⟨k, rfl, ?_⟩
  have sm : Same F F5 := (((s1.trans s2).trans s3).trans s4).trans s5
  cases k with
  | false => exact q F5 H5 _ sm S5 (.bl _)
  | true =>
    refine ⟨F5, ρ2, S5, (Pst.bnd.mp (Pst.mono wm s5 q)).imp fun t ρ3 q F6 H6 w s6 S6 r6 => ?_⟩
    obtain ⟨F7, s7, S7, d7⟩ := S6.freeze r6
    obtain ⟨z2, e4, q⟩ := q.lift
    exact hs' F7 ρ3 σ H6 y w _ _ z2 Q S7 (.inl (dp_mono ((s5.trans s6).trans s7) _ _ d4)) (.inl d7) e4 fun F8 H8 w8 s8 S8 r8 => q F8 H8 w8 ((sm.trans (s6.trans s7)).trans s8) S8 r8
theorem fe_chain (wm : WM W) {op op' : CmpOp} (ho : OpR X (compareOp op) r) (hs : OpS C r f) (ho' : OpR X (compareOp op') r') (hs' : OpS C r' g) (ha : PE X a (rd C W ma)) (hb : PE X b (rd C W mb)) (hc : PE X c (rd C W mc)) (hm : lastMarks [op, op'] [b, c] = false) :
    PE X (.Compare a [op, op'] [b, c] pos) (rd C W (mChain f g ma mb mc)) := PE.imp (pe_chain ho ho' ha hb hc hm) fun _ _ _ q => chain_go wm hs hs' q
theorem ft_chain (wm : WM W) {op op' : CmpOp} (ho : OpR X (compareOp op) r) (hs : OpS C r f) (ho' : OpR X (compareOp op') r') (hs' : OpS C r' g) (ha : PE X a (rd C W ma)) (hb : PE X b (rd C W mb)) (hc : PE X c (rd C W mc)) (hm : lastMarks [op, op'] [b, c] = false) :
    PT X (.Compare a [op, op'] [b, c] pos) (rdT C W (asT (mChain f g ma mb mc))) := PT.imp (pt_chain ho ho' ha hb hc hm) fun _ _ _ q => asT_go q fun _ q => chain_go wm hs hs' q
end
end FK

/-! FkD2: what is walked: lists and tuples in any mix, enumerate, zip. -/
namespace FK
open PySem L2 PyProof.Rows

/-- a kind of sequence (lists, tuples): how it is read, what its iterator is -/
structure Src (P : Program) (w : World) (K : PySem.W.Frag) (S : Hp → Addr → List V → Prop) (so : Heap → Addr → Array Value → Prop) (io : Heap → Addr → Addr → Nat → Prop) (ob : Addr → Obj) : Prop where
  draws : ∀ (A : Around), A.handled = none → ∀ (it a : Addr), a ≠ it → ∀ items : Array Value, Draws P w A it [it, a] items.size (fun i v => items[i]? = some v) (fun i h => io h it a i ∧ so h a items)
  read : ∀ (X : Cx), X.prog = P → X.w = w → X.K = K → ∀ (pins : List (Addr × Obj)) (σ : L2.St) (H : Hp) (s : Shared) (a : Addr) (xs : List V), Inv X pins σ H s → S H a xs → ∃ its : List Value, Vals xs its ∧ so s.heap a its.toArray
  inj : ∀ (X : Cx), X.prog = P → X.w = w → X.K = K → ∀ (pins : List (Addr × Obj)) (σ : L2.St) (H : Hp) (s : Shared) (a : Addr) (xs ys : List V), Inv X pins σ H s → S H a xs → S H a ys → xs = ys
  lt : ∀ h a its, so h a its → a < h.objs.size
  iobj : ∀ h it a i, io h it a i → ∃ o, h.get? it = some o ∧ ∀ v, o.data ≠ .cell v
  ikeep : ∀ h h' it a i, io h it a i → (∀ o, h.get? it = some o → h'.get? it = some o) → io h' it a i
  begins : ∀ a its, Begins (.ref a) (ob a) fun h => so h a its
  first : ∀ (h : Heap) (it a : Addr), h.get? it = some (ob a) → io h it a 0
section
variable {P : Program} {w : World} {K : PySem.W.Frag}
theorem src_list : Src P w K (SqL K) (fun h a its => h.IsList a its) (fun h it a i => h.IsListIter it a i) (fun a => { cls := .type "list_iterator", data := .fields #[.ref a, .int 0 0] }) where
  draws := fun A hh it a ne items => Draws.list hh it a ne items
  read := fun X e1 e2 e3 pins σ H s a xs I h => by
    subst e3
    obtain ⟨its, r, p, _⟩ := I.list h
    exact ⟨its, r, p.isList⟩
  inj := fun X e1 e2 e3 pins σ H s a xs ys I h1 h2 => by subst e3; exact I.list_inj h1 h2
  lt := fun h a its ⟨o, e, _⟩ => Heap.lt_size e
  iobj := fun h it a i ⟨o, e, _, d⟩ => ⟨o, e, fun v q => by rw [d] at q; cases q⟩
  ikeep := fun h h' it a i x k => x.at k
  begins := fun a its => begins_list a its
  first := fun h it a e => ⟨_, e, rfl, rfl⟩
theorem src_tup : Src P w K (SqT K) (fun h a its => h.IsTuple a its) (fun h it a i => h.IsTupleIter it a i) (fun a => { cls := .type "tuple_iterator", data := .fields #[.ref a, .int 0 0] }) where
  draws := fun A hh it a ne items => Draws.tuple hh it a ne items
  read := fun X e1 e2 e3 pins σ H s a xs I h => by
    subst e3
    obtain ⟨its, r, p, _⟩ := I.tuple h
    exact ⟨its, r, p⟩
  inj := fun X e1 e2 e3 pins σ H s a xs ys I h1 h2 => by subst e3; exact I.tuple_inj h1 h2
  lt := fun h a its ⟨o, e, _⟩ => Heap.lt_size e
  iobj := fun h it a i ⟨o, e, _, d⟩ => ⟨o, e, fun v q => by rw [d] at q; cases q⟩
  ikeep := fun h h' it a i x k => x.at k
  begins := fun a its => begins_tuple a its
  first := fun h it a e => ⟨_, e, rfl, rfl⟩

/-! ### enumerate -/
def ItE (S : Hp → Addr → List V → Prop) (a : Addr) (k : Int) : It :=
  ⟨fun i H => ∃ xs x, S H a xs ∧ xs[i]? = some x,
    fun i H v H' => ∃ T x, v = .ref T ∧ H T = none ∧ H' = upd H T (.tup [.int (k + (i : Nat)), x]) ∧ ∀ xs, S H a xs → xs[i]? = some x,
    fun i H => ∃ xs, S H a xs ∧ xs.length = i⟩
theorem turn_E {S : Hp → Addr → List V → Prop} {so : Heap → Addr → Array Value → Prop} {io : Heap → Addr → Addr → Nat → Prop} {ob : Addr → Obj} (R : Src P w K S so io ob) {elts : List Expr} {kk : Nat} {tpos : Pos} (a e it : Addr) (k : Int) (nei : e ≠ it) (nea : e ≠ a) (nia : a ≠ it) :
    Turn P w K (.Tuple elts kk tpos) (ItE S a k) [e, it] e (fun i h => (∃ old, IsEnum h e it (k + (i : Nat)) old) ∧ io h it a i) where
  mem := by simp
  obj := fun i h st b hb => by
    obtain ⟨⟨old, he⟩, hi⟩ := st
    have hb' : b = e ∨ b = it := by simpa using hb
    rcases hb' with z | z
    · rw [z]; exact ⟨_, he, fun v q => nomatch q⟩
    · rw [z]; exact R.iobj _ _ _ _ hi
  keep := fun i h h' st kp => ⟨st.1.imp fun old he => kp e (by simp) _ he, R.ikeep _ _ _ _ _ st.2 fun o q => kp it (by simp) o q⟩
  item := by
    intro X e1 e2 e3 hc i pins s σ H E I hf st hg
    obtain ⟨xs, x, hS, hx⟩ := hg
    obtain ⟨its, rv, hso⟩ := R.read X e1 e2 e3 pins σ H s a xs I hS
    subst e1 e2
    have hn : i < its.toArray.size := by
      have := (List.getElem?_eq_some_iff.mp hx).1
      have l : xs.length = its.length := Vals.length rv
      rw [List.size_toArray]; omega
    have G := GoesN.enumFrom (A := X.A) (elts := elts) (x1 := kk) (pos := tpos) k (R.draws X.A.in1 (I.ok.hd hc) it a nia its.toArray) e nei (by simp [nei, nea]) (by simp)
    refine G.goes i s _ E hn ⟨st.1, st.2, hso⟩ fun v h' tk hY st' hk htk => ?_
    obtain ⟨T, t, y, rfl, hT, hy, hIs⟩ := hY
    obtain ⟨u, hu, ru⟩ := rv.get hx
    have ey : y = u := by
      rw [List.getElem?_toArray, hu] at hy
      exact (Option.some.inj hy).symm
    subst ey
    have new : ObjOk X.prog X.w (upd H T (.tup [.int (k + (i : Nat)), x])) h' T (.tup [.int (k + (i : Nat)), x]) := ⟨by show 2 ≤ sizeLine; decide, [.int (k + (i : Nat)) t, y], .cons ⟨t, rfl⟩ (.cons ru .nil), hIs⟩
    have I1 : Inv X pins σ (upd H T (.tup [.int (k + (i : Nat)), x])) { s with heap := h', toks := tk } := I.turnedNew (ch := [e, it]) hk hf hT new
    refine ⟨.ref T, _, I1, rfl, ⟨T, x, rfl, I.hok.fresh hT, rfl, fun ys hys => by rw [R.inj X rfl rfl e3 pins σ H s a ys xs I hys hS]; exact hx⟩, ⟨?_, st'.2.1⟩, fun b hb => ?_⟩
    · obtain ⟨old, q⟩ := st'.1
      exact ⟨old, q⟩
    · have hlt : b < s.heap.objs.size := by
        have hb' : b = e ∨ b = it := by simpa using hb
        rcases hb' with z | z
        · obtain ⟨old, q⟩ := st.1
          rw [z]; exact Heap.lt_size q
        · obtain ⟨o, q, _⟩ := R.iobj _ _ _ _ st.2
          rw [z]; exact Heap.lt_size q
      rw [upd_ne (Nat.ne_of_lt (Nat.lt_of_lt_of_le hlt hT))]
      exact (hf b hb).1
  done := by
    intro X e1 e2 e3 hc i pins s σ H E I hf st hg
    obtain ⟨xs, hS, hx⟩ := hg
    obtain ⟨its, rv, hso⟩ := R.read X e1 e2 e3 pins σ H s a xs I hS
    subst e1 e2
    have hn : i = its.toArray.size := by
      have l : xs.length = its.length := Vals.length rv
      rw [List.size_toArray]; omega
    have G := GoesN.enumFrom (A := X.A) (elts := elts) (x1 := kk) (pos := tpos) k (R.draws X.A.in1 (I.ok.hd hc) it a nia its.toArray) e nei (by simp [nei, nea]) (by simp)
    subst hn
    exact G.stops s _ E ⟨st.1, st.2, hso⟩ fun h' tk hk htk => I.turnedL (ch := [e, it]) hk hf
  self := fun A i s Q E st h => by
    obtain ⟨⟨old, he⟩, _⟩ := st
    exact wpAny_pyIter_enum he h

/-! ### zip -/
def ItZ (S1 S2 : Hp → Addr → List V → Prop) (a b : Addr) : It :=
  ⟨fun i H => ∃ xs ys x y, S1 H a xs ∧ S2 H b ys ∧ xs[i]? = some x ∧ ys[i]? = some y,
    fun i H v H' => ∃ T x y, v = .ref T ∧ H T = none ∧ H' = upd H T (.tup [x, y]) ∧ (∀ xs, S1 H a xs → xs[i]? = some x) ∧ ∀ ys, S2 H b ys → ys[i]? = some y,
    fun i H => ∃ xs ys, S1 H a xs ∧ S2 H b ys ∧ min xs.length ys.length = i⟩
theorem turn_Z {S1 S2 : Hp → Addr → List V → Prop} {so1 so2 : Heap → Addr → Array Value → Prop} {io1 io2 : Heap → Addr → Addr → Nat → Prop} {ob1 ob2 : Addr → Obj} (R1 : Src P w K S1 so1 io1 ob1) (R2 : Src P w K S2 so2 io2 ob2)
    {elts : List Expr} {kk : Nat} {tpos : Pos} {a b z TI TO i1 i2 : Addr} (D : ZipSep2 z TI TO i1 i2 [i1, a] [i2, b]) (n1 : a ≠ i1) (n2 : b ≠ i2) :
    Turn P w K (.Tuple elts kk tpos) (ItZ S1 S2 a b) [z, TI, TO, i1, i2] z (fun i h => IsZip h z TI TO .none ∧ IsTupOf2 h TI (.ref i1) (.ref i2) ∧ (∃ x y, IsTupOf2 h TO x y) ∧ io1 h i1 a i ∧ io2 h i2 b i) where
  mem := by simp
  obj := fun i h st c hc => by
    obtain ⟨hz, hTI, ⟨x, y, hTO⟩, h1, h2⟩ := st
    have e' : c = z ∨ c = TI ∨ c = TO ∨ c = i1 ∨ c = i2 := by simpa using hc
    rcases e' with q | q | q | q | q
    · subst q; exact ⟨_, hz, fun v q => nomatch q⟩
    · subst q; exact ⟨_, hTI, fun v q => nomatch q⟩
    · subst q; exact ⟨_, hTO, fun v q => nomatch q⟩
    · subst q; exact R1.iobj _ _ _ _ h1
    · subst q; exact R2.iobj _ _ _ _ h2
  keep := fun i h h' st kp => by
    obtain ⟨hz, hTI, ⟨x, y, hTO⟩, h1, h2⟩ := st
    exact ⟨kp z (by simp) _ hz, kp TI (by simp) _ hTI, ⟨x, y, kp TO (by simp) _ hTO⟩, R1.ikeep _ _ _ _ _ h1 fun o q => kp i1 (by simp) o q, R2.ikeep _ _ _ _ _ h2 fun o q => kp i2 (by simp) o q⟩
  item := by
    intro X e1 e2 e3 hc i pins s σ H E I hf st hg
    obtain ⟨xs, ys, x, y, hS1, hS2, hx, hy⟩ := hg
    obtain ⟨its1, rv1, hso1⟩ := R1.read X e1 e2 e3 pins σ H s a xs I hS1
    obtain ⟨its2, rv2, hso2⟩ := R2.read X e1 e2 e3 pins σ H s b ys I hS2
    subst e1 e2
    have l1 : xs.length = its1.length := Vals.length rv1
    have l2 : ys.length = its2.length := Vals.length rv2
    have hn : i < min its1.toArray.size its2.toArray.size := by
      have := (List.getElem?_eq_some_iff.mp hx).1
      have := (List.getElem?_eq_some_iff.mp hy).1
      rw [List.size_toArray, List.size_toArray]; omega
    have G := GoesN.zip2 (A := X.A) (elts := elts) (x1 := kk) (pos := tpos) D (R1.draws X.A.in1 (I.ok.hd hc) i1 a n1 its1.toArray) (R2.draws X.A.in1 (I.ok.hd hc) i2 b n2 its2.toArray)
    obtain ⟨hz, hTI, hTO, h1, h2⟩ := st
    refine G.goes i s _ E hn ⟨hz, hTI, hTO, ⟨h1, hso1⟩, ⟨h2, hso2⟩⟩ fun v h' tk hY st' hk htk => ?_
    obtain ⟨T, p, q, rfl, hT, hp, hq, hIs⟩ := hY
    obtain ⟨u1, hu1, ru1⟩ := rv1.get hx
    obtain ⟨u2, hu2, ru2⟩ := rv2.get hy
    have ep : p = u1 := by rw [List.getElem?_toArray, hu1] at hp; exact (Option.some.inj hp).symm
    have eq' : q = u2 := by rw [List.getElem?_toArray, hu2] at hq; exact (Option.some.inj hq).symm
    subst ep eq'
    have new : ObjOk X.prog X.w (upd H T (.tup [x, y])) h' T (.tup [x, y]) := ⟨by show 2 ≤ sizeLine; decide, [p, q], .cons ru1 (.cons ru2 .nil), hIs⟩
    have hk' : ∀ c o, c ∉ [z, TI, TO, i1, i2] → s.heap.get? c = some o → h'.get? c = some o := fun c o hcm q => hk c o (fun w => hcm (by
      have : c = z ∨ c = TO ∨ c = i1 ∨ c = i2 := by simpa using w
      rcases this with r | r | r | r <;> simp [r])) q
    have I1 : Inv X pins σ (upd H T (.tup [x, y])) { s with heap := h', toks := tk } := I.turnedNew (ch := [z, TI, TO, i1, i2]) hk' hf hT new
    refine ⟨.ref T, _, I1, rfl, ⟨T, x, y, rfl, I.hok.fresh hT, rfl, fun l hl => by rw [R1.inj X rfl rfl e3 pins σ H s a l xs I hl hS1]; exact hx, fun l hl => by rw [R2.inj X rfl rfl e3 pins σ H s b l ys I hl hS2]; exact hy⟩, ⟨st'.1, st'.2.1, st'.2.2.1, st'.2.2.2.1.1, st'.2.2.2.2.1⟩, fun c hcm => ?_⟩
    have hlt : c < s.heap.objs.size := by
      have e' : c = z ∨ c = TI ∨ c = TO ∨ c = i1 ∨ c = i2 := by simpa using hcm
      rcases e' with r | r | r | r | r
      · rw [r]; exact Heap.lt_size hz
      · rw [r]; exact Heap.lt_size hTI
      · obtain ⟨_, _, g⟩ := hTO
        rw [r]; exact Heap.lt_size g
      · obtain ⟨o, g, _⟩ := R1.iobj _ _ _ _ h1
        rw [r]; exact Heap.lt_size g
      · obtain ⟨o, g, _⟩ := R2.iobj _ _ _ _ h2
        rw [r]; exact Heap.lt_size g
    rw [upd_ne (Nat.ne_of_lt (Nat.lt_of_lt_of_le hlt hT))]
    exact (hf c hcm).1
  done := by
    intro X e1 e2 e3 hc i pins s σ H E I hf st hg
    obtain ⟨xs, ys, hS1, hS2, hx⟩ := hg
    obtain ⟨its1, rv1, hso1⟩ := R1.read X e1 e2 e3 pins σ H s a xs I hS1
    obtain ⟨its2, rv2, hso2⟩ := R2.read X e1 e2 e3 pins σ H s b ys I hS2
    subst e1 e2
    have l1 : xs.length = its1.length := Vals.length rv1
    have l2 : ys.length = its2.length := Vals.length rv2
    have hn : i = min its1.toArray.size its2.toArray.size := by
      rw [List.size_toArray, List.size_toArray]; omega
    have G := GoesN.zip2 (A := X.A) (elts := elts) (x1 := kk) (pos := tpos) D (R1.draws X.A.in1 (I.ok.hd hc) i1 a n1 its1.toArray) (R2.draws X.A.in1 (I.ok.hd hc) i2 b n2 its2.toArray)
    obtain ⟨hz, hTI, hTO, h1, h2⟩ := st
    subst hn
    refine G.stops s _ E ⟨hz, hTI, hTO, ⟨h1, hso1⟩, ⟨h2, hso2⟩⟩ fun h' tk hk htk => I.turnedL (ch := [z, TI, TO, i1, i2]) (fun c o hcm q => hk c o (fun w => hcm (by
      have : c = z ∨ c = TO ∨ c = i1 ∨ c = i2 := by simpa using w
      rcases this with r | r | r | r <;> simp [r])) q) hf
  self := fun A i s Q E st h => wpAny_pyIter_zip st.1 h
end
end FK

/-! FkD3: each operation by values is what the machine does. -/
namespace FK
open PySem L2 PyProof.Rows

section
variable {C : Ct} {F H : Hp} {x : V}
theorem view_non (w : View C F H x .none) : x = .non := by
  rcases w with w | ⟨_, _, w', _, e, _⟩
  · cases w; rfl
  · cases w' <;> cases e
theorem view_bl {b : Bool} (w : View C F H x (.bool b)) : x = .bl b := by
  rcases w with w | ⟨_, _, w', _, e, _⟩
  · cases w; rfl
  · cases w' <;> cases e
theorem view_int {i : Int} (w : View C F H x (.int i)) : x = .int i := by
  rcases w with w | ⟨_, _, w', _, e, _⟩
  · cases w; rfl
  · cases w' <;> cases e
theorem view_str {z : Str} (w : View C F H x (.str z)) : x = .str z := by
  rcases w with w | ⟨_, _, w', _, e, _⟩
  · cases w; rfl
  · cases w' <;> cases e
theorem view_tup {ds : List D} (w : View C F H x (.tuple ds)) : ∃ p xs, x = .ref p ∧ TupAt F p xs ∧ DqAll C.K F xs ds := by
  rcases w with w | ⟨_, _, w', _, e, _⟩
  · cases w with
    | tup q qs => exact ⟨_, _, rfl, q, qs⟩
  · cases w' <;> cases e
theorem view_lst {ds : List D} (s : Same F H) (w : View C F H x (.list ds)) : ∃ p xs, x = .ref p ∧ SqL C.K H p xs ∧ DqAll C.K F xs ds := by
  rcases w with w | ⟨p, o, w', rfl, e, h1, h2⟩
  · cases w with
    | lst q qs => exact ⟨_, _, rfl, sqL_mono s q, qs⟩
  · cases w' with
    | dic kvs => cases e
    | lst es =>
      cases e
      obtain ⟨xs, rfl, h2⟩ := h2
      exact ⟨p, xs, rfl, .inl (.inl h1), h2⟩
theorem view_dp {d : D} (s : Same F H) (w : View C F H x d) : Dq C.K H x d := by
  rcases w with w | ⟨p, o, w', rfl, rfl, h1, h2⟩
  · exact dp_mono s _ _ w
  · exact (h2.mono s).dq h1
end
theorem sz_line {n : Nat} (h : n ≤ 16777216) : n ≤ sizeLine := by rw [PySem.sizeLine_eq]; exact h

section
variable {C : Ct} {F H : Hp} {ρ : Rho} {σ : L2.St} {Q : VK} {K : PySem.W.Frag}
theorem kont_here {d : D} {x : V} (S : Sim C F ρ σ H) (q : Kont C F ρ σ (.fz d) Q) (h : Dq C.K F x d) : Q x H := q F H x (Same.refl F) S h
theorem kont_tup {ds : List D} {xs : List V} (S : Sim C F ρ σ H) (q : Kont C F ρ σ (.fz (.tuple ds)) Q) (h : DqAll C.K F xs ds) (z : ds.length ≤ sizeLine) : NewT H xs Q := fun p o hp ho => by
  obtain ⟨S', r⟩ := S.tup hp ho h z
  exact q _ _ _ (same_new (S.free hp)) S' r
theorem kont_lst {ds : List D} {xs : List V} (S : Sim C F ρ σ H) (q : Kont C F ρ σ (.ow ds) Q) (h : DqAll C.K F xs ds) (z : ds.length ≤ sizeLine) : ∀ p, H p = none → Q (.ref p) (upd H p (.lst xs)) := fun p hp => by
  obtain ⟨S', r⟩ := S.ownRV hp h z
  exact q _ _ _ (Same.refl F) S' r

/-! ### arithmetic -/
def rAddA (K : PySem.W.Frag) : R2 := fun x y H Q => (rI0 (fun i j => .int (i + j)) x y H Q ∨ rCatF K x y H Q) ∨ rCatL K x y H Q
theorem op_addA {X : Cx} : OpR X (binaryOp .Add) (rAddA X.K) := (op_add.or op_catF).or op_catL
theorem os_add (hK : C.K = K) : OpS C (rAddA K) oAdd := by
  subst hK
  intro F ρ σ H x y d e v Q S w1 w2 h q
  unfold oAdd at h
  split at h
  · cases h
    rename_i a b
    exact .inl (.inl ⟨a, b, view_int w1, view_int w2, kont_here S q (.int _)⟩)
  · rename_i a b
    split at h
    · rename_i hz
      cases h
      obtain ⟨p, xs, rfl, h1, h2⟩ := view_tup w1
      obtain ⟨p2, ys, rfl, h3, h4⟩ := view_tup w2
      have hz' := sz_line hz
      have l1 := dps_length h2
      have l2 := dps_length h4
      refine .inl (.inr ⟨p, p2, xs, ys, rfl, rfl, sqT_mono S.sub h1.sq, sqT_mono S.sub h3.sq, by omega, fun e => ?_, fun _ e => ?_, fun _ _ => kont_tup S q (dps_append h2 h4) (by rw [List.length_append]; exact hz')⟩)
      · subst e
        have : a = [] := List.eq_nil_of_length_eq_zero (by simpa using l1.symm)
        subst this
        exact kont_here S q (.tup h3 h4)
      · subst e
        have : b = [] := List.eq_nil_of_length_eq_zero (by simpa using l2.symm)
        subst this
        exact kont_here S q (by rw [List.append_nil]; exact .tup h1 h2)
    · cases h
  · rename_i a b
    split at h
    · rename_i hz
      cases h
      obtain ⟨p, xs, rfl, h1, h2⟩ := view_lst S.sub w1
      obtain ⟨p2, ys, rfl, h3, h4⟩ := view_lst S.sub w2
      have hz' := sz_line hz
      have l1 := dps_length h2
      have l2 := dps_length h4
      exact .inr ⟨p, p2, xs, ys, rfl, rfl, h1, h3, by omega, kont_lst S q (dps_append h2 h4) (by rw [List.length_append]; exact hz')⟩
    · cases h
  · cases h
theorem os_sub : OpS C (rI0 fun i j => .int (i - j)) oSub := by
  intro F ρ σ H x y d e v Q S w1 w2 h q
  unfold oSub at h
  split at h
  · cases h; exact ⟨_, _, view_int w1, view_int w2, kont_here S q (.int _)⟩
  · cases h
theorem intIn_iff {i : Int} : intIn i = true ↔ -(2 ^ 64) < i ∧ i < 2 ^ 64 := by unfold intIn; rw [decide_eq_true_iff]
theorem small_iff {i : Int} : small i = true ↔ -1000000 ≤ i ∧ i ≤ 1000000 := by unfold small; rw [decide_eq_true_iff]
def rMulA (K : PySem.W.Frag) : R2 := fun x y H Q => (rI CMul (fun i j => .int (i * j)) x y H Q ∨ rRepTA K x y H Q) ∨ rRepL K x y H Q
theorem op_mulA {X : Cx} : OpR X (binaryOp .Mult) (rMulA X.K) := (op_mul.or op_repTA).or op_repL
theorem rep_len {α : Type} (xs : List α) (n : Nat) : (List.replicate n xs).flatten.length = n * xs.length := PyProof.Rows.lm_len_rep_flat ..
theorem os_mul (hK : C.K = K) : OpS C (rMulA K) oMul := by
  subst hK
  intro F ρ σ H x y d e v Q S w1 w2 h q
  unfold oMul at h
  split at h
  · split at h
    · rename_i a b hc
      cases h
      refine .inl (.inl ⟨a, b, view_int w1, view_int w2, ?_, kont_here S q (.int _)⟩)
      rw [Bool.or_eq_true, intIn_iff, intIn_iff] at hc
      exact hc
    · cases h
  · rename_i a k
    split at h
    · rename_i hc
      cases h
      obtain ⟨p, xs, rfl, h1, h2⟩ := view_tup w1
      have l1 := dps_length h2
      refine .inl (.inr ⟨p, k, xs, rfl, view_int w2, sqT_mono S.sub h1.sq, hc.1, hc.2.1, by omega, fun z => ?_, fun z1 z2 => kont_tup S q (dps_rep h2 _) ?_⟩)
      · refine kont_here S q ?_
        rcases z with z | z
        · subst z
          have : a = [] := List.eq_nil_of_length_eq_zero (by simpa using l1.symm)
          subst this
          have : (List.replicate k.toNat ([] : List D)).flatten = [] := by
            apply List.eq_nil_of_length_eq_zero
            rw [rep_len]; simp
          rw [this]
          exact .tup h1 h2
        · subst z
          have : (List.replicate (1 : Int).toNat a).flatten = a := by simp [show (1 : Int).toNat = 1 from rfl]
          rw [this]
          exact .tup h1 h2
      · rw [rep_len]
        refine sz_line ?_
        have a1 : k.toNat * a.length ≤ 1000 * 1000 := Nat.mul_le_mul (by omega) hc.2.2
        omega
    · cases h
  · rename_i a k
    split at h
    · rename_i hc
      cases h
      rw [Bool.and_eq_true, small_iff, decide_eq_true_iff] at hc
      obtain ⟨p, xs, rfl, h1, h2⟩ := view_lst S.sub w1
      have l1 := dps_length h2
      refine .inr ⟨p, k, xs, rfl, view_int w2, h1, hc.1.1, hc.1.2, by rw [l1]; exact sz_line hc.2, kont_lst S q (dps_rep h2 _) ?_⟩
      rw [rep_len, Nat.mul_comm]
      exact sz_line hc.2
    · cases h
  · cases h
theorem os_mod : OpS C (rI (fun _ j => 0 < j) fun i j => .int (i % j)) oMod := by
  intro F ρ σ H x y d e v Q S w1 w2 h q
  unfold oMod at h
  split at h
  · split at h
    · rename_i hc
      cases h; exact ⟨_, _, view_int w1, view_int w2, hc, kont_here S q (.int _)⟩
    · cases h
  · cases h
theorem os_fdiv : OpS C (rI CDiv fun i j => .int (i / j)) oFdiv := by
  intro F ρ σ H x y d e v Q S w1 w2 h q
  unfold oFdiv at h
  split at h
  · split at h
    · rename_i hc
      cases h; exact ⟨_, _, view_int w1, view_int w2, hc, kont_here S q (.int _)⟩
    · cases h
  · cases h
theorem os_pow : OpS C (rI CPow fun i j => .int (i ^ j.toNat)) oPow := by
  intro F ρ σ H x y d e v Q S w1 w2 h q
  unfold oPow at h
  split at h
  · split at h
    · rename_i a b hc
      cases h
      have h3 := intIn_iff.mp hc.2.2
      exact ⟨_, _, view_int w1, view_int w2, ⟨hc.1, by omega, by omega⟩, kont_here S q (.int _)⟩
    · cases h
  · cases h
theorem us_neg : UnS C (rU fun i => .int (-i)) oNeg := by
  intro F ρ σ H x d v Q S w1 h q
  unfold oNeg at h
  split at h
  · cases h; exact ⟨_, view_int w1, kont_here S q (.int _)⟩
  · cases h

/-! ### comparisons -/
theorem os_cmp {p : Int → Int → Bool} : OpS C (rI0 fun i j => .bl (p i j)) (oCmp p) := by
  intro F ρ σ H x y d e v Q S w1 w2 h q
  unfold oCmp at h
  split at h
  · cases h; exact ⟨_, _, view_int w1, view_int w2, kont_here S q (.bl _)⟩
  · cases h
theorem eqD_spec {a b : D} {k : Bool} (h : eqD a b = some k) : a.plain = true ∧ b.plain = true ∧ min a.depth b.depth ≤ 64 ∧ PyData.eqv a b = k := by
  unfold eqD at h
  split at h
  · cases h
    rename_i i j
    refine ⟨rfl, rfl, by simp [PyData.depth], ?_⟩
    show (i == j) = decide (i = j)
    exact Bool.beq_eq_decide_eq i j
  · split at h
    · rename_i hc
      cases h
      unfold cmpOk at hc
      rw [Bool.and_eq_true, Bool.and_eq_true, decide_eq_true_iff] at hc
      exact ⟨hc.1.1, hc.1.2, hc.2, rfl⟩
    · cases h
def rEqP (K : PySem.W.Frag) : R2 := fun x y H Q => ∃ d e, Dp K H x d ∧ Dp K H y e ∧ d.plain = true ∧ e.plain = true ∧ min d.depth e.depth ≤ 64 ∧ Q (.bl (PyData.eqv d e)) H
def rNeP (K : PySem.W.Frag) : R2 := fun x y H Q => ∃ d e, Dp K H x d ∧ Dp K H y e ∧ d.plain = true ∧ e.plain = true ∧ min d.depth e.depth ≤ 64 ∧ Q (.bl (!PyData.eqv d e)) H
theorem op_eqP {X : Cx} (hu : X.A.units + 64 < cLine) : OpR X (compareOp .Eq) (rEqP X.K) := by
  intro pins s σ H x y v u Q I rx ry h
  obtain ⟨d, e, hd, he, pd, pe, sm, q⟩ := h
  obtain ⟨as, r1⟩ := Dp.reads I d x v hd rx
  obtain ⟨bs, r2⟩ := Dp.reads I e y u he ry
  exact SeqAt.eq_plain r1 r2 pd pe (by omega) ⟨.bl _, H, I, rfl, q⟩
theorem op_neP {X : Cx} (hu : X.A.units + 64 < cLine) : OpR X (compareOp .NotEq) (rNeP X.K) := by
  intro pins s σ H x y v u Q I rx ry h
  obtain ⟨d, e, hd, he, pd, pe, sm, q⟩ := h
  obtain ⟨as, r1⟩ := Dp.reads I d x v hd rx
  obtain ⟨bs, r2⟩ := Dp.reads I e y u he ry
  exact SeqAt.ne_plain r1 r2 pd pe (by omega) ⟨.bl _, H, I, rfl, q⟩
theorem os_eq (hK : C.K = K) : OpS C (rEqP K) oEq := by
  subst hK
  intro F ρ σ H x y d e v Q S w1 w2 h q
  unfold oEq at h
  obtain ⟨k, h1, h2⟩ := Option.map_eq_some_iff.mp h
  cases h2
  obtain ⟨p1, p2, s1, e1⟩ := eqD_spec h1
  exact ⟨d, e, dq_dp _ _ p1 (view_dp S.sub w1), dq_dp _ _ p2 (view_dp S.sub w2), p1, p2, s1, by rw [e1]; exact kont_here S q (.bl _)⟩
theorem os_ne (hK : C.K = K) : OpS C (rNeP K) oNe := by
  subst hK
  intro F ρ σ H x y d e v Q S w1 w2 h q
  unfold oNe at h
  obtain ⟨k, h1, h2⟩ := Option.map_eq_some_iff.mp h
  cases h2
  obtain ⟨p1, p2, s1, e1⟩ := eqD_spec h1
  exact ⟨d, e, dq_dp _ _ p1 (view_dp S.sub w1), dq_dp _ _ p2 (view_dp S.sub w2), p1, p2, s1, by rw [e1]; exact kont_here S q (.bl _)⟩
theorem non_iff {d : D} {x : V} (w : View C F H x d) : decide (x = .non) = isNon d := by
  rcases w with w | ⟨p, o, w', rfl, rfl, h1, h2⟩
  · cases w <;> first | rfl | exact decide_eq_false (fun q => nomatch q)
  · cases w' <;> exact decide_eq_false (fun q => nomatch q)
theorem os_is : OpS C (fun x y H Q => y = .non ∧ Q (.bl (decide (x = .non))) H) oIs := by
  intro F ρ σ H x y d e v Q S w1 w2 h q
  unfold oIs at h
  split at h
  · cases h
    exact ⟨view_non w2, by rw [non_iff w1]; exact kont_here S q (.bl _)⟩
  · cases h
theorem os_isnot : OpS C (fun x y H Q => y = .non ∧ Q (.bl (!decide (x = .non))) H) oIsNot := by
  intro F ρ σ H x y d e v Q S w1 w2 h q
  unfold oIsNot at h
  split at h
  · cases h
    exact ⟨view_non w2, by rw [non_iff w1]; exact kont_here S q (.bl _)⟩
  · cases h

/-! ### subscripts -/
theorem ixN_lt {n : Nat} {i : Int} {j : Nat} (h : ixN n i = some j) : j < n := (ixN_seq h).2.1
theorem atI_of {xs : List V} {ds : List D} {i : Int} {d : D} (h : DqAll C.K F xs ds) (e : (ixD ds.length i).bind (ds[·]?) = some d) : ∃ v, atI xs i = some v ∧ Dq C.K F v d := by
  obtain ⟨j, h1, h2⟩ := Option.bind_eq_some_iff.mp e
  obtain ⟨v, h3, h4⟩ := dps_get h h2
  refine ⟨v, ?_, h4⟩
  unfold atI
  rw [dps_length h]
  unfold ixD at h1
  rw [h1]
  exact h3
def rIxA (K : PySem.W.Frag) : R2 := fun x y H Q => rIxL K x y H Q ∨ rIxT K x y H Q
theorem ix_A {X : Cx} : IxR X (rIxA X.K) := ix_list.or ix_tup
theorem os_ix (hK : C.K = K) : OpS C (rIxA K) oIx := by
  subst hK
  intro F ρ σ H x y d e v Q S w1 w2 h q
  unfold oIx at h
  split at h
  · obtain ⟨k, h1, h2⟩ := Option.map_eq_some_iff.mp h
    cases h2
    obtain ⟨p, xs, rfl, h3, h4⟩ := view_lst S.sub w1
    obtain ⟨u, h5, h6⟩ := atI_of h4 h1
    exact .inl ⟨p, xs, _, u, rfl, view_int w2, h3, h5, kont_here S q h6⟩
  · obtain ⟨k, h1, h2⟩ := Option.map_eq_some_iff.mp h
    cases h2
    obtain ⟨p, xs, rfl, h3, h4⟩ := view_tup w1
    obtain ⟨u, h5, h6⟩ := atI_of h4 h1
    exact .inr ⟨p, xs, _, u, rfl, view_int w2, sqT_mono S.sub h3.sq, h5, kont_here S q h6⟩
  · cases h
theorem dps_cut {xs : List V} {ds : List D} (h : DqAll C.K F xs ds) (lo hi : Option Int) : DqAll C.K F (cutV xs lo hi) (cutD ds lo hi) := by
  unfold cutV cutD
  rw [dps_length h]
  exact dps_take _ (dps_drop _ h)
theorem cutD_length (ds : List D) (lo hi : Option Int) : (cutD ds lo hi).length ≤ ds.length := by
  unfold cutD
  rw [List.length_take, List.length_drop]
  omega
def rSlAll (K : PySem.W.Frag) : V → Option Int → Option Int → Hp → VK → Prop := fun x lo hi H Q => rSlL K x lo hi H Q ∨ rSlF K x lo hi H Q
theorem sl_All {X : Cx} : SlR X (rSlAll X.K) := sl_list.or sl_tupF
theorem sl_go (hK : C.K = K) {d : D} {lo hi : Option Int} {v : Val} {x : V} (S : Sim C F ρ σ H) (w : View C F H x d) (h : oSl d lo hi = some v) (q : Kont C F ρ σ v Q) : rSlAll K x lo hi H Q := by
  subst hK
  unfold oSl at h
  split at h
  · cases h
    obtain ⟨p, xs, rfl, h3, h4⟩ := view_lst S.sub w
    refine .inl ⟨p, xs, rfl, h3, kont_lst S q (dps_cut h4 _ _) (Nat.le_trans (cutD_length _ _ _) ?_)⟩
    rw [← dps_length h4]
    exact sqL_sz S.sz h3
  · cases h
    rename_i ds
    obtain ⟨p, xs, rfl, h3, h4⟩ := view_tup w
    have hz : ds.length ≤ sizeLine := by
      rw [← dps_length h4]
      exact sqT_sz (K := C.K) S.sz (sqT_mono S.sub h3.sq)
    refine .inr ⟨p, xs, rfl, sqT_mono S.sub h3.sq, fun e => ?_, fun _ => kont_tup S q (dps_cut h4 _ _) (Nat.le_trans (cutD_length _ _ _) hz)⟩
    refine kont_here S q ?_
    have : cutD ds lo hi = ds := by
      unfold cutD
      rw [dps_length h4] at e
      rw [e.1, e.2]
      simp
    rw [this]
    exact .tup h3 h4
  · cases h

/-! ### built-ins -/
theorem views1 {xs : List V} {d : D} (w : Views C F H xs [d]) : ∃ x, xs = [x] ∧ View C F H x d := by
  cases w with
  | cons h t => cases t; exact ⟨_, rfl, h⟩
theorem views2 {xs : List V} {d e : D} (w : Views C F H xs [d, e]) : ∃ x y, xs = [x, y] ∧ View C F H x d ∧ View C F H y e := by
  cases w with
  | cons h t =>
    obtain ⟨y, rfl, h2⟩ := views1 t
    exact ⟨_, y, rfl, h, h2⟩
theorem views3 {xs : List V} {d e f : D} (w : Views C F H xs [d, e, f]) : ∃ x y z, xs = [x, y, z] ∧ View C F H x d ∧ View C F H y e ∧ View C F H z f := by
  cases w with
  | cons h t =>
    obtain ⟨y, z, rfl, h2, h3⟩ := views2 t
    exact ⟨_, y, z, rfl, h, h2, h3⟩
theorem ca_len (hK : C.K = K) : CaS C (fun xs H Q => ∃ p ys, xs = [.ref p] ∧ (SqL K H p ys ∨ SqT K H p ys) ∧ Q (.int ys.length) H) oLen := by
  subst hK
  intro F ρ σ H xs ds v Q S w h q
  unfold oLen at h
  split at h
  · cases h
    obtain ⟨x, rfl, wv⟩ := views1 w
    obtain ⟨p, ys, rfl, h3, h4⟩ := view_lst S.sub wv
    exact ⟨p, ys, rfl, .inl h3, by rw [dps_length h4]; exact kont_here S q (.int _)⟩
  · cases h
    obtain ⟨x, rfl, wv⟩ := views1 w
    obtain ⟨p, ys, rfl, h3, h4⟩ := view_tup wv
    exact ⟨p, ys, rfl, .inr (sqT_mono S.sub h3.sq), by rw [dps_length h4]; exact kont_here S q (.int _)⟩
  · cases h
theorem ca_int : CaS C (fun xs H Q => (∃ i, xs = [.int i] ∧ Q (.int i) H) ∨ ∃ k, xs = [.bl k] ∧ Q (.int (if k then 1 else 0)) H) oInt := by
  intro F ρ σ H xs ds v Q S w h q
  unfold oInt at h
  split at h
  · cases h
    obtain ⟨x, rfl, wv⟩ := views1 w
    rw [view_int wv]
    exact .inl ⟨_, rfl, kont_here S q (.int _)⟩
  · cases h
    obtain ⟨x, rfl, wv⟩ := views1 w
    rw [view_bl wv]
    exact .inr ⟨_, rfl, kont_here S q (.int _)⟩
  · cases h
theorem ca_abs : CaS C (fun xs H Q => ∃ i, xs = [.int i] ∧ Q (.int (if i < 0 then -i else i)) H) oAbs := by
  intro F ρ σ H xs ds v Q S w h q
  unfold oAbs at h
  split at h
  · cases h
    obtain ⟨x, rfl, wv⟩ := views1 w
    rw [view_int wv]
    exact ⟨_, rfl, kont_here S q (.int _)⟩
  · cases h
def rMax23 : List V → Hp → VK → Prop := fun xs H Q => (∃ i j, xs = [.int i, .int j] ∧ Q (.int (if j > i then j else i)) H) ∨ ∃ i j k, xs = [.int i, .int j, .int k] ∧ Q (.int (max (max i j) k)) H
def rMin23 : List V → Hp → VK → Prop := fun xs H Q => (∃ i j, xs = [.int i, .int j] ∧ Q (.int (if j < i then j else i)) H) ∨ ∃ i j k, xs = [.int i, .int j, .int k] ∧ Q (.int (min (min i j) k)) H
theorem cr_max23 {X : Cx} (hc : X.calm = true) : CallR X (.builtin "max") rMax23 := (call_max2 hc).or (cr_max3 hc)
theorem cr_min23 {X : Cx} (hc : X.calm = true) : CallR X (.builtin "min") rMin23 := (call_min2 hc).or (cr_min3 hc)
theorem ca_max : CaS C rMax23 oMax := by
  intro F ρ σ H xs ds v Q S w h q
  unfold oMax at h
  split at h
  · cases h
    rename_i i j
    obtain ⟨x, y, rfl, w1, w2⟩ := views2 w
    rw [view_int w1, view_int w2]
    refine .inl ⟨i, j, rfl, ?_⟩
    have : (if j > i then j else i) = max i j := by split <;> omega
    rw [this]
    exact kont_here S q (.int _)
  · cases h
    rename_i i j k
    obtain ⟨x, y, z, rfl, w1, w2, w3⟩ := views3 w
    rw [view_int w1, view_int w2, view_int w3]
    exact .inr ⟨i, j, k, rfl, kont_here S q (.int _)⟩
  · cases h
theorem ca_min : CaS C rMin23 oMin := by
  intro F ρ σ H xs ds v Q S w h q
  unfold oMin at h
  split at h
  · cases h
    rename_i i j
    obtain ⟨x, y, rfl, w1, w2⟩ := views2 w
    rw [view_int w1, view_int w2]
    refine .inl ⟨i, j, rfl, ?_⟩
    have : (if j < i then j else i) = min i j := by split <;> omega
    rw [this]
    exact kont_here S q (.int _)
  · cases h
    rename_i i j k
    obtain ⟨x, y, z, rfl, w1, w2, w3⟩ := views3 w
    rw [view_int w1, view_int w2, view_int w3]
    exact .inr ⟨i, j, k, rfl, kont_here S q (.int _)⟩
  · cases h
theorem ca_tuple (hK : C.K = K) : CaS C (fun xs H Q => ∃ p ys, xs = [.ref p] ∧ ((SqL K H p ys ∧ NewT H ys Q) ∨ (SqT K H p ys ∧ Q (.ref p) H))) oTuple := by
  subst hK
  intro F ρ σ H xs ds v Q S w h q
  unfold oTuple at h
  split at h
  · cases h
    obtain ⟨x, rfl, wv⟩ := views1 w
    obtain ⟨p, ys, rfl, h3, h4⟩ := view_lst S.sub wv
    exact ⟨p, ys, rfl, .inl ⟨h3, kont_tup S q h4 (by rw [← dps_length h4]; exact sqL_sz S.sz h3)⟩⟩
  · cases h
    obtain ⟨x, rfl, wv⟩ := views1 w
    obtain ⟨p, ys, rfl, h3, h4⟩ := view_tup wv
    exact ⟨p, ys, rfl, .inr ⟨sqT_mono S.sub h3.sq, kont_here S q (.tup h3 h4)⟩⟩
  · cases h
theorem ca_list (hK : C.K = K) : CaS C (fun xs H Q => ∃ p ys, xs = [.ref p] ∧ (SqL K H p ys ∨ SqT K H p ys) ∧ ∀ l, H l = none → Q (.ref l) (upd H l (.lst ys))) oList := by
  subst hK
  intro F ρ σ H xs ds v Q S w h q
  unfold oList at h
  split at h
  · cases h
    obtain ⟨x, rfl, wv⟩ := views1 w
    obtain ⟨p, ys, rfl, h3, h4⟩ := view_lst S.sub wv
    exact ⟨p, ys, rfl, .inl h3, kont_lst S q h4 (by rw [← dps_length h4]; exact sqL_sz S.sz h3)⟩
  · cases h
    obtain ⟨x, rfl, wv⟩ := views1 w
    obtain ⟨p, ys, rfl, h3, h4⟩ := view_tup wv
    exact ⟨p, ys, rfl, .inr (sqT_mono S.sub h3.sq), kont_lst S q h4 (by rw [← dps_length h4]; exact sqT_sz (K := C.K) S.sz (sqT_mono S.sub h3.sq))⟩
  · cases h
theorem bools_of : ∀ {ds : List D} {xs : List V} {bs : List Bool}, DqAll C.K F xs ds → boolsOf ds = some bs → xs = bs.map V.bl
  | [], _, _, h, e => by cases h; cases e; rfl
  | .bool b :: ds, _, _, h, e => by
    cases h with
    | cons q qs =>
      cases q
      obtain ⟨bs, h1, h2⟩ := Option.map_eq_some_iff.mp (show (boolsOf ds).map (b :: ·) = _ from e)
      subst h2
      rw [bools_of qs h1]; rfl
  | .none :: _, _, _, _, e => nomatch e
  | .int _ :: _, _, _, _, e => nomatch e
  | .str _ :: _, _, _, _, e => nomatch e
  | .list _ :: _, _, _, _, e => nomatch e
  | .tuple _ :: _, _, _, _, e => nomatch e
  | .dict _ :: _, _, _, _, e => nomatch e
theorem ca_any (hK : C.K = K) : CaS C (rAny K) oAny := by
  subst hK
  intro F ρ σ H xs ds v Q S w h q
  unfold oAny at h
  split at h
  · obtain ⟨bs, h1, h2⟩ := Option.map_eq_some_iff.mp h
    cases h2
    obtain ⟨x, rfl, wv⟩ := views1 w
    obtain ⟨p, ys, rfl, h3, h4⟩ := view_lst S.sub wv
    have e := bools_of h4 h1
    subst e
    exact ⟨p, bs, rfl, h3, kont_here S q (.bl _)⟩
  · cases h
theorem ca_all (hK : C.K = K) : CaS C (rAll K) oAll := by
  subst hK
  intro F ρ σ H xs ds v Q S w h q
  unfold oAll at h
  split at h
  · obtain ⟨bs, h1, h2⟩ := Option.map_eq_some_iff.mp h
    cases h2
    obtain ⟨x, rfl, wv⟩ := views1 w
    obtain ⟨p, ys, rfl, h3, h4⟩ := view_lst S.sub wv
    have e := bools_of h4 h1
    subst e
    exact ⟨p, bs, rfl, h3, kont_here S q (.bl _)⟩
  · cases h
theorem ca_repr (hK : C.K = K) : CaS C (rReprD K) oRepr := by
  subst hK
  intro F ρ σ H xs ds v Q S w h q
  unfold oRepr at h
  split at h
  · split at h
    · rename_i d hc
      cases h
      obtain ⟨x, rfl, wv⟩ := views1 w
      unfold reprOk at hc
      rw [Bool.and_eq_true, Bool.and_eq_true, Bool.and_eq_true, decide_eq_true_iff, decide_eq_true_iff] at hc
      exact ⟨x, d, rfl, dq_dp _ _ hc.1.1.1 (view_dp S.sub wv), hc.1.1.2, sz_line hc.1.2, hc.2, kont_here S q (.str _)⟩
    · cases h
  · cases h
end
end FK

/-! FkD4: what a for and a comprehension walk. -/
namespace FK
open PySem L2 PyProof.Rows

theorem meets_enum1 {v : Value} {o : Obj} {G : Heap → Prop} (B : Begins v o G) :
    Meets (Builtin.«enumerate.__new__» ⟨[.type "enumerate", v], []⟩) (fun _ R s => G s.heap ∧
      R (.ok (.ret (.ref (s.heap.push o).objs.size))) { s with heap := (s.heap.push o).push { cls := .type "enumerate", data := .fields #[.none, .bool false, .ref s.heap.objs.size, rawInt 0, .none, .none] } }) :=
  .of_wp fun prog w A R s h => by
    obtain ⟨hp, g, dr, tk, os⟩ := s
    obtain ⟨h1, h2⟩ := h
    have hsub := sub_enumerate
    have st : ∀ {A' : Around} {E : Value → Shared → Prop} {Q : Value → Shared → Prop}, Q (.ref hp.objs.size) ⟨hp.push o, g, dr, tk, os⟩ → wpAny (model prog w) A' (pyIter v) Q E ⟨hp, g, dr, tk, os⟩ :=
      fun q => B.iter prog w _ _ ⟨hp, g, dr, tk, os⟩ _ h1 q
    wp_walk using st
    refine wpAny_stack_any fun fr => wpAny_pure ?_
    split
    · rename_i c _ _ _ _ _
      cases (c == Value.type "enumerate")
      · wp_walk using st
        exact ⟨_, rfl, h2⟩
      · wp_walk using st
        exact ⟨_, rfl, h2⟩
    · wp_walk using st
      exact ⟨_, rfl, h2⟩
theorem call_enum1 {prog : Program} {w : World} {A : Around} {E : Value → Shared → Prop} {s : Shared} {v : Value} {o : Obj} {G : Heap → Prop} {Q : Value → Shared → Prop} (B : Begins v o G) (h1 : G s.heap)
    (h : ∀ h', IsEnum h' (s.heap.objs.size + 1) s.heap.objs.size 0 .none → h'.get? s.heap.objs.size = some o → (∀ b o, s.heap.get? b = some o → h'.get? b = some o) → Q (.ref (s.heap.objs.size + 1)) { s with heap := h' }) :
    wpAny (model prog w) A (call (.type "enumerate") [v]) Q E s := by
  have hz : (s.heap.push o).objs.size = s.heap.objs.size + 1 := Heap.size_push ..
  refine callType_new PySem.F.called_enumerate (by decide) (PySem.F.typeCall_enumerate_1 _) (PySem.F.newCall_enumerate_1 _) (fun obj => PySem.F.args_object_init_2 obj _) PySem.F.entry_enumerate_new (meets_enum1 B) ⟨h1, ?_⟩
  show _ ∧ _
  rw [hz]
  have he : IsEnum ((s.heap.push o).push { cls := .type "enumerate", data := .fields #[.none, .bool false, .ref s.heap.objs.size, rawInt 0, .none, .none] }) (s.heap.objs.size + 1) s.heap.objs.size 0 .none := by
    have e := Heap.get?_push_size (s.heap.push o) (o := { cls := .type "enumerate", data := .fields #[.none, .bool false, .ref s.heap.objs.size, rawInt 0, .none, .none] }) rfl
    rw [hz] at e
    exact e
  exact ⟨⟨_, he, rfl⟩, h _ he (Heap.get?_push_of_some _ (Heap.get?_push_size _ B.free)) fun b u x => Heap.get?_push_of_some _ (Heap.get?_push_of_some _ x)⟩

/-- what a turn gives: an item as it lies; a new tuple of such -/
def Yld (C : Ct) (F H : Hp) (wk : Bool) (d : D) (x : V) (H' : Hp) : Prop :=
  (H' = H ∧ Dq C.K F x d) ∨ wk = true ∧ ∃ T xs ds, x = .ref T ∧ H T = none ∧ H' = upd H T (.tup xs) ∧ d = .tuple ds ∧ DqAll C.K F xs ds ∧ ds.length ≤ sizeLine
/-- wk: tuples whose objects are not known may come -/
structure WalkD (C : Ct) (F : Hp) (J : It) (wk : Bool) (ds : List D) : Prop where
  goes : ∀ i H, i < ds.length → Same F H → Same C.Z H → J.go i H
  stops : ∀ H, Same F H → Same C.Z H → J.stop ds.length H
  yields : ∀ i H x H' d, ds[i]? = some d → Same F H → Same C.Z H → J.yld i H x H' → Yld C F H wk d x H'
  sz : ds.length ≤ sizeLine
def rdI (C : Ct) (W : Wish) (wk : Bool) (it : M (List D)) : TI := fun σ H R => ∃ F ρ, Sim C F ρ σ H ∧ Pst W F σ (it ρ) fun ds ρ' => ∀ F' H' J, Same F F' → Sim C F' ρ' σ H' → WalkD C F' J wk ds → R J H'

section
variable {C : Ct} {F : Hp} {a : Addr} {xs : List V} {ds : List D}
theorem walkD_list (z : xs.length ≤ sizeLine) (h : SqL C.K F a xs) (hd : DqAll C.K F xs ds) : WalkD C F (Itl C.K a) false ds where
  goes := fun i H hi s _ => by
    rw [← dps_length hd] at hi
    exact ⟨xs, xs[i], sqL_mono s h, by simp [hi]⟩
  stops := fun H s _ => ⟨xs, sqL_mono s h, by rw [dps_length hd]; exact Nat.le_refl _⟩
  yields := fun i H x H' d e s _ y => by
    obtain ⟨v, h1, h2⟩ := dps_get hd e
    have h3 := y.2 xs (sqL_mono s h)
    rw [h1] at h3
    cases h3
    exact .inl ⟨y.1, h2⟩
  sz := by rw [← dps_length hd]; exact z
theorem walkD_tup (z : xs.length ≤ sizeLine) (h : SqT C.K F a xs) (hd : DqAll C.K F xs ds) : WalkD C F (Itt C.K a) false ds where
  goes := fun i H hi s _ => by
    rw [← dps_length hd] at hi
    exact ⟨xs, xs[i], sqT_mono s h, by simp [hi]⟩
  stops := fun H s _ => ⟨xs, sqT_mono s h, by rw [dps_length hd]; exact Nat.le_refl _⟩
  yields := fun i H x H' d e s _ y => by
    obtain ⟨v, h1, h2⟩ := dps_get hd e
    have h3 := y.2 xs (sqT_mono s h)
    rw [h1] at h3
    cases h3
    exact .inl ⟨y.1, h2⟩
  sz := by rw [← dps_length hd]; exact z
theorem rng_get (a c : Int) (n i : Nat) (h : i < n) : (rng a c n)[i]? = some (.int (a + (i : Int) * c)) := by
  unfold rng
  rw [List.getElem?_map, List.getElem?_range h]
  rfl
theorem rng_len (a c : Int) (n : Nat) : (rng a c n).length = n := by unfold rng; simp
theorem walkD_rng (lo : Int) (n : Nat) (z : n ≤ 16777216) : WalkD C F (Itr lo n) false (rng lo 1 n) where
  goes := fun i H hi s _ => by rw [rng_len] at hi; exact hi
  stops := fun H s _ => by show n ≤ _; rw [rng_len]; exact Nat.le_refl _
  yields := fun i H x H' d e s _ y => by
    have hi : i < n := by
      have := (List.getElem?_eq_some_iff.mp e).1
      rw [rng_len] at this; exact this
    rw [rng_get _ _ _ _ hi] at e
    cases e
    obtain ⟨y1, y2⟩ := y
    subst y2
    rw [Int.mul_one]
    exact .inl ⟨y1, .int _⟩
  sz := by rw [rng_len]; exact sz_line z
theorem walkD_rngC (lo c : Int) (n : Nat) (z : n ≤ 16777216) : WalkD C F (Itc lo c n) false (rng lo c n) where
  goes := fun i H hi s _ => by rw [rng_len] at hi; exact hi
  stops := fun H s _ => by show n ≤ _; rw [rng_len]; exact Nat.le_refl _
  yields := fun i H x H' d e s _ y => by
    have hi : i < n := by
      have := (List.getElem?_eq_some_iff.mp e).1
      rw [rng_len] at this; exact this
    rw [rng_get _ _ _ _ hi] at e
    cases e
    obtain ⟨y1, y2⟩ := y
    subst y2
    exact .inl ⟨y1, .int _⟩
  sz := by rw [rng_len]; exact sz_line z
theorem enumL_get : ∀ (ds : List D) (k : Int) (i : Nat), (enumL k ds)[i]? = ds[i]?.map fun d => .tuple [.int (k + (i : Nat)), d]
  | [], k, i => by simp [enumL]
  | d :: ds, k, 0 => by simp [enumL]
  | d :: ds, k, i + 1 => by
    simp only [enumL, List.getElem?_cons_succ]
    rw [enumL_get ds (k + 1) i]
    have : k + 1 + (i : Int) = k + ((i + 1 : Nat) : Int) := by omega
    rw [this]
theorem enumL_len : ∀ (ds : List D) (k : Int), (enumL k ds).length = ds.length
  | [], k => rfl
  | d :: ds, k => by simp [enumL, enumL_len ds]
theorem zipL_get : ∀ (xs ys : List D) (i : Nat) (d : D), (zipL xs ys)[i]? = some d → ∃ x y, xs[i]? = some x ∧ ys[i]? = some y ∧ d = .tuple [x, y]
  | x :: xs, y :: ys, 0, d, h => by simp [zipL] at h; exact ⟨x, y, rfl, rfl, h.symm⟩
  | x :: xs, y :: ys, i + 1, d, h => by
    obtain ⟨a, b, h1, h2, h3⟩ := zipL_get xs ys i d (by simpa [zipL] using h)
    exact ⟨a, b, by simpa using h1, by simpa using h2, h3⟩
  | [], _, i, d, h => by simp [zipL] at h
  | _ :: _, [], i, d, h => by simp [zipL] at h
theorem zipL_len : ∀ (xs ys : List D), (zipL xs ys).length = min xs.length ys.length
  | x :: xs, y :: ys => by simp [zipL, zipL_len xs ys]
  | [], ys => by simp [zipL]
  | _ :: _, [] => by simp [zipL]
theorem walkD_E {S : Hp → Addr → List V → Prop} (mono : ∀ H H' b ys, Same H H' → S H b ys → S H' b ys) (z : xs.length ≤ sizeLine) (h : S F a xs) (hd : DqAll C.K F xs ds) : WalkD C F (ItE S a 0) true (enumL 0 ds) where
  goes := fun i H hi s _ => by
    rw [enumL_len, ← dps_length hd] at hi
    exact ⟨xs, xs[i], mono _ _ _ _ s h, by simp [hi]⟩
  stops := fun H s _ => ⟨xs, mono _ _ _ _ s h, by rw [enumL_len, dps_length hd]⟩
  yields := fun i H x H' d e s _ y => by
    rw [enumL_get] at e
    obtain ⟨d', e1, e2⟩ := Option.map_eq_some_iff.mp e
    subst e2
    obtain ⟨v, h1, h2⟩ := dps_get hd e1
    obtain ⟨T, u, rfl, h3, h4, h5⟩ := y
    have h6 := h5 xs (mono _ _ _ _ s h)
    rw [h1] at h6
    cases h6
    exact .inr ⟨rfl, T, _, _, rfl, h3, h4, rfl, .cons (.int _) (.cons h2 .nil), by show 2 ≤ sizeLine; decide⟩
  sz := by rw [enumL_len, ← dps_length hd]; exact z
theorem walkD_Z {S1 S2 : Hp → Addr → List V → Prop} {b : Addr} {ys : List V} {es : List D} (m1 : ∀ H H' b ys, Same H H' → S1 H b ys → S1 H' b ys) (m2 : ∀ H H' b ys, Same H H' → S2 H b ys → S2 H' b ys) (z : xs.length ≤ sizeLine)
    (h : S1 F a xs) (hd : DqAll C.K F xs ds) (h' : S2 F b ys) (hd' : DqAll C.K F ys es) : WalkD C F (ItZ S1 S2 a b) true (zipL ds es) where
  goes := fun i H hi s _ => by
    rw [zipL_len, ← dps_length hd, ← dps_length hd'] at hi
    exact ⟨xs, ys, xs[i], ys[i], m1 _ _ _ _ s h, m2 _ _ _ _ s h', by simp, by simp⟩
  stops := fun H s _ => ⟨xs, ys, m1 _ _ _ _ s h, m2 _ _ _ _ s h', by rw [zipL_len, dps_length hd, dps_length hd']⟩
  yields := fun i H x H' d e s _ y => by
    obtain ⟨d1, d2, e1, e2, rfl⟩ := zipL_get _ _ _ _ e
    obtain ⟨v, h1, h2⟩ := dps_get hd e1
    obtain ⟨u, h3, h4⟩ := dps_get hd' e2
    obtain ⟨T, p, q, rfl, g1, g2, g3, g4⟩ := y
    have k1 := g3 xs (m1 _ _ _ _ s h)
    have k2 := g4 ys (m2 _ _ _ _ s h')
    rw [h1] at k1
    rw [h3] at k2
    cases k1
    cases k2
    exact .inr ⟨rfl, T, _, _, rfl, g1, g2, rfl, .cons h2 (.cons h4 .nil), by show 2 ≤ sizeLine; decide⟩
  sz := by
    rw [zipL_len, ← dps_length hd]
    omega
end

/-- a list that waits meanwhile -/
theorem walkZ_list {C : Ct} {F : Hp} {a : Addr} {xs : List V} {ds : List D} (z : xs.length ≤ sizeLine) (hd : DqAll C.K F xs ds) : WalkD (C.wz (upd C.Z a (.lst xs))) F (Itl C.K a) false ds where
  goes := fun i H hi _ s => by
    rw [← dps_length hd] at hi
    exact ⟨xs, xs[i], .inl (.inl (s _ _ upd_same)), by simp [hi]⟩
  stops := fun H _ s => ⟨xs, .inl (.inl (s _ _ upd_same)), by rw [dps_length hd]; exact Nat.le_refl _⟩
  yields := fun i H x H' d e _ s y => by
    obtain ⟨v, h1, h2⟩ := dps_get hd e
    have h3 := y.2 xs (.inl (.inl (s _ _ upd_same)))
    rw [h1] at h3
    cases h3
    exact .inl ⟨y.1, h2⟩
  sz := by rw [← dps_length hd]; exact z
theorem walkZ_E {C : Ct} {F : Hp} {a : Addr} {xs : List V} {ds : List D} (z : xs.length ≤ sizeLine) (hd : DqAll C.K F xs ds) : WalkD (C.wz (upd C.Z a (.lst xs))) F (ItE (SqL C.K) a 0) true (enumL 0 ds) where
  goes := fun i H hi _ s => by
    rw [enumL_len, ← dps_length hd] at hi
    exact ⟨xs, xs[i], .inl (.inl (s _ _ upd_same)), by simp [hi]⟩
  stops := fun H _ s => ⟨xs, .inl (.inl (s _ _ upd_same)), by rw [enumL_len, dps_length hd]⟩
  yields := fun i H x H' d e _ s y => by
    rw [enumL_get] at e
    obtain ⟨d', e1, e2⟩ := Option.map_eq_some_iff.mp e
    subst e2
    obtain ⟨v, h1, h2⟩ := dps_get hd e1
    obtain ⟨T, u, rfl, h3, h4, h5⟩ := y
    have h6 := h5 xs (.inl (.inl (s _ _ upd_same)))
    rw [h1] at h6
    cases h6
    exact .inr ⟨rfl, T, _, _, rfl, h3, h4, rfl, .cons (.int _) (.cons h2 .nil), by show 2 ≤ sizeLine; decide⟩
  sz := by rw [enumL_len, ← dps_length hd]; exact z
section
variable {X : Cx} {C : Ct} {W : Wish} {tg e e2 : Expr} {m n : M Val}
/-- a value that is walked -/
theorem fi_seq (wm : WM W) (hK : C.K = X.K) (he : PE X e (rd C W m)) : PI X tg e (rdI C W false (itSeq m)) := by
  refine ⟨fun pins s σ H R I q => ?_⟩
  obtain ⟨F, ρ, S, q⟩ := q
  have q := Pst.bnd.mp q
  refine thn (he.run pins s σ H (fun x H1 => ∃ a J, x = .ref a ∧ ((J = Itl X.K a ∧ ∃ xs, SqL X.K H1 a xs) ∨ (J = Itt X.K a ∧ ∃ xs, SqT X.K H1 a xs)) ∧ R J H1) I ⟨F, ρ, S, q.imp fun v ρ1 q F1 H1 x s1 S1 r => ?_⟩) fun v s1 ⟨x, H1, I1, r1, q1⟩ => ?_
  · obtain ⟨F2, s2, S2, d2⟩ := S1.freeze r
    obtain ⟨ds, e1, q⟩ := q.lift
    cases hv : v.data with
    | list ds' =>
      rw [hv] at e1 d2
      cases e1
      cases d2 with
      | lst q1 q2 =>
        refine ⟨_, _, rfl, .inl ⟨rfl, _, by rw [← hK]; exact sqL_mono S2.sub q1⟩, ?_⟩
        rw [← hK]
        exact q F2 H1 _ (s1.trans s2) S2 (walkD_list (sqL_sz S2.sz (sqL_mono S2.sub q1)) q1 q2)
    | tuple ds' =>
      rw [hv] at e1 d2
      cases e1
      cases d2 with
      | tup q1 q2 =>
        refine ⟨_, _, rfl, .inr ⟨rfl, _, by rw [← hK]; exact sqT_mono S2.sub q1.sq⟩, ?_⟩
        rw [← hK]
        exact q F2 H1 _ (s1.trans s2) S2 (walkD_tup (sqT_sz (K := C.K) S2.sz (sqT_mono S2.sub q1.sq)) q1.sq q2)
    | none => rw [hv] at e1; cases e1
    | bool b => rw [hv] at e1; cases e1
    | int b => rw [hv] at e1; cases e1
    | str b => rw [hv] at e1; cases e1
    | dict b => rw [hv] at e1; cases e1
  · obtain ⟨a, J, rfl, hJ, qR⟩ := q1
    cases r1
    rcases hJ with ⟨rfl, xs, hx⟩ | ⟨rfl, xs, hx⟩
    · obtain ⟨its, rv, p, hz⟩ := I1.list hx
      refine wpAny_pyIter_list p.isList ⟨s1.heap.objs.size, [s1.heap.objs.size], _, _, H1, rfl, I1.kept (t' := s1.toks) fun b o e => Heap.get?_push_of_some _ e, turn_list a _, ⟨_, Heap.get?_push_size _ rfl, rfl, rfl⟩, fun b hb => ?_, qR⟩
      have e : b = s1.heap.objs.size := by simpa using hb
      rw [e]
      exact I1.fpOk (Nat.le_refl _) (I1.hok.fresh (Nat.le_refl _))
    · obtain ⟨its, rv, p, hz⟩ := I1.tuple hx
      refine wpAny_pyIter_tuple p ⟨s1.heap.objs.size, [s1.heap.objs.size], _, _, H1, rfl, I1.kept (t' := s1.toks) fun b o e => Heap.get?_push_of_some _ e, turn_tuple a _, ⟨_, Heap.get?_push_size _ rfl, rfl, rfl⟩, fun b hb => ?_, qR⟩
      have e : b = s1.heap.objs.size := by simpa using hb
      rw [e]
      exact I1.fpOk (Nat.le_refl _) (I1.hok.fresh (Nat.le_refl _))
end
end FK

/-! FkD5: ranges, enumerate, zip; comprehensions. -/
namespace FK
open PySem L2 PyProof.Rows

section
variable {X : Cx} {C : Ct} {W : Wish} {tg e e2 e3 : Expr} {m n : M Val} {p pos : Pos}
theorem rng_go (wm : WM W) {as : List Opd} {σ : L2.St} {H : Hp} {R : It → Hp → Prop} {Rk : List V → Hp → Prop} (q : rdI C W false (itRng as) σ H R)
    (i : ∀ F ρ H1 vs ds l, Sim C F ρ σ H1 → Views C F H1 vs ds → rngOf ds = some l → (∀ J, WalkD C F J false l → R J H1) → Rk vs H1) : tOpds C W as σ H Rk := by
  obtain ⟨F, ρ, S, q⟩ := q
  refine runs_go wm as S q fun F1 H1 xs os ρ1 s1 S1 g1 h1 => ?_
  obtain ⟨ds, w, h2⟩ := gets_go as S1 g1 h1
  obtain ⟨v, e1, q⟩ := h2.lift
  exact i F1 ρ1 H1 xs ds v S1 w e1 fun J wk => q F1 H1 J s1 S1 wk
theorem toNat_line {i : Int} (h : i ≤ 16777216) : i.toNat ≤ 16777216 := by omega
/-- the number of a range's operands is that of its data -/
theorem views_len {F H : Hp} : ∀ {vs : List V} {ds : List D}, Views C F H vs ds → vs.length = ds.length
  | _, _, .nil => rfl
  | _, _, .cons _ t => by simp [views_len t]
theorem gots_cons {F : Hp} {σ : L2.St} {a : Opd} {as : List Opd} : ∀ {os : List (Option D)} {xs : List V}, Gots C F σ (a :: as) os xs → ∃ o os' x xs', os = o :: os' ∧ xs = x :: xs' ∧ Got C F σ a o x ∧ Gots C F σ as os' xs'
  | [], [], h => h.elim
  | [], _ :: _, h => h.elim
  | _ :: _, [], h => h.elim
  | o :: os, x :: xs, h => ⟨o, os, x, xs, rfl, rfl, h.1, h.2⟩
theorem gots_nil {F : Hp} {σ : L2.St} : ∀ {os : List (Option D)} {xs : List V}, Gots C F σ [] os xs → os = [] ∧ xs = []
  | [], [], _ => ⟨rfl, rfl⟩
  | [], _ :: _, h => h.elim
  | _ :: _, [], h => h.elim
  | _ :: _, _ :: _, h => h.elim
theorem rng1_go (wm : WM W) {oa : Opd} {σ : L2.St} {H : Hp} {R : It → Hp → Prop} (q : rdI C W false (itRng [oa]) σ H R) : iRng1 (tOpds C W [oa]) σ H R := by
  obtain ⟨F, ρ, S, q⟩ := q
  refine runs_go wm [oa] S q fun F1 H1 xs os ρ1 s1 S1 g1 h1 => ?_
  obtain ⟨o, os, x, xs, rfl, rfl, g, g1⟩ := gots_cons g1
  obtain ⟨rfl, rfl⟩ := gots_nil g1
  focus
    simp only [gets, bnd_assoc, bnd_ret] at h1
    obtain ⟨d, w, h2⟩ := opd_get S1 g h1
    obtain ⟨l, e1, q⟩ := h2.lift
    unfold rngOf at e1
    split at e1
    · rename_i k hk
      split at e1
      · rename_i hs
        cases e1
        cases hk
        obtain ⟨k1, k2⟩ := small_iff.mp hs
        exact ⟨k, by rw [view_int w], by omega, by omega, q F1 H1 _ s1 S1 (walkD_rng 0 _ (toNat_line (by omega)))⟩
      · cases e1
    · rename_i hk; cases hk
    · rename_i hk; cases hk
    · cases e1
theorem rng2_go (wm : WM W) {oa ob : Opd} {σ : L2.St} {H : Hp} {R : It → Hp → Prop} (q : rdI C W false (itRng [oa, ob]) σ H R) : iRng2 (tOpds C W [oa, ob]) σ H R := by
  obtain ⟨F, ρ, S, q⟩ := q
  refine runs_go wm [oa, ob] S q fun F1 H1 xs os ρ1 s1 S1 g1 h1 => ?_
  obtain ⟨o, os, x, xs, rfl, rfl, g, g1⟩ := gots_cons g1
  obtain ⟨o2, os, y, xs, rfl, rfl, g', g1⟩ := gots_cons g1
  obtain ⟨rfl, rfl⟩ := gots_nil g1
  focus
    simp only [gets, bnd_assoc, bnd_ret] at h1
    obtain ⟨d, w, h2⟩ := opd_get S1 g h1
    obtain ⟨d2, w2, h3⟩ := opd_get S1 g' h2
    obtain ⟨l, e1, q⟩ := h3.lift
    unfold rngOf at e1
    split at e1
    · rename_i hk; cases hk
    · rename_i i j hk
      split at e1
      · rename_i hs
        cases e1
        cases hk
        rw [Bool.and_eq_true, small_iff, small_iff] at hs
        exact ⟨i, j, by rw [view_int w, view_int w2], ⟨by omega, by omega, by omega, by omega⟩, q F1 H1 _ s1 S1 (walkD_rng i _ (toNat_line (by omega)))⟩
      · cases e1
    · rename_i hk; cases hk
    · cases e1
theorem rng3_go (wm : WM W) {oa ob oc : Opd} {σ : L2.St} {H : Hp} {R : It → Hp → Prop} (q : rdI C W false (itRng [oa, ob, oc]) σ H R) : iRng3 (tOpds C W [oa, ob, oc]) σ H R := by
  obtain ⟨F, ρ, S, q⟩ := q
  refine runs_go wm [oa, ob, oc] S q fun F1 H1 xs os ρ1 s1 S1 g1 h1 => ?_
  obtain ⟨o, os, x, xs, rfl, rfl, g, g1⟩ := gots_cons g1
  obtain ⟨o2, os, y, xs, rfl, rfl, g', g1⟩ := gots_cons g1
  obtain ⟨o3, os, z, xs, rfl, rfl, g'', g1⟩ := gots_cons g1
  obtain ⟨rfl, rfl⟩ := gots_nil g1
  focus
    simp only [gets, bnd_assoc, bnd_ret] at h1
    obtain ⟨d, w, h2⟩ := opd_get S1 g h1
    obtain ⟨d2, w2, h3⟩ := opd_get S1 g' h2
    obtain ⟨d3, w3, h4⟩ := opd_get S1 g'' h3
    obtain ⟨l, e1, q⟩ := h4.lift
    unfold rngOf at e1
    split at e1
    · rename_i hk; cases hk
    · rename_i hk; cases hk
    · rename_i i j c hk
      split at e1
      · rename_i hs
        cases e1
        cases hk
        rw [Bool.and_eq_true, Bool.and_eq_true, small_iff, small_iff, decide_eq_true_iff] at hs
        obtain ⟨hs, rfl⟩ := hs
        exact ⟨i, j, -1, _, by rw [view_int w, view_int w2, view_int w3], RgC.neg (by omega) (by omega) (by omega) (by omega), q F1 H1 _ s1 S1 (walkD_rngC i (-1) _ (toNat_line (by omega)))⟩
      · cases e1
    · cases e1
/-- enumerate(e) -/
theorem fi_enum (wm : WM W) (hK : C.K = X.K) {elts : List Expr} {kk : Nat} {tpos : Pos} (hg : Gl X "enumerate") (hm : X.mg "enumerate" = none) (he : PE X e (rd C W m)) (hs : starEach [e] X.env = [(false, eval e X.env)]) :
    PI X (.Tuple elts kk tpos) (.Call (.Name "enumerate" p) [e] [] pos) (rdI C W true (itEnum m)) := by
  refine ⟨fun pins s σ H R I q => ?_⟩
  obtain ⟨F, ρ, S, q⟩ := q
  have q := Pst.bnd.mp q
  have ha : PA X [e] (tCons (rd C W m) tNil) := pa_cons he pa_nil hs
  refine Call_ (ld_blt I hg hm boot_enumerate (PyProof.Rows.callWith_type1 (thn (ha.run pos pins s σ H (fun vs H1 => ∃ a J, vs = [.ref a] ∧ ((J = ItE (SqL X.K) a 0 ∧ ∃ xs, SqL X.K H1 a xs) ∨ (J = ItE (SqT X.K) a 0 ∧ ∃ xs, SqT X.K H1 a xs)) ∧ R J H1) I
    ⟨F, ρ, S, q.imp fun v ρ1 q F1 H1 x s1 S1 r => ?_⟩) fun us s1 ⟨vs, H1, I1, r1, q1⟩ => ?_) hs rfl))
  · obtain ⟨F2, s2, S2, d2⟩ := S1.freeze r
    have q := Pst.bnd.mp q
    obtain ⟨ds, e1, q⟩ := q.lift
    cases hv : v.data with
    | list ds' =>
      rw [hv] at e1 d2
      cases e1
      cases d2 with
      | lst q1 q2 =>
        refine ⟨_, _, rfl, .inl ⟨rfl, _, by rw [← hK]; exact sqL_mono S2.sub q1⟩, ?_⟩
        rw [← hK]
        exact q F2 H1 _ (s1.trans s2) S2 (walkD_E (fun _ _ _ _ s h => sqL_mono s h) (sqL_sz S2.sz (sqL_mono S2.sub q1)) q1 q2)
    | tuple ds' =>
      rw [hv] at e1 d2
      cases e1
      cases d2 with
      | tup q1 q2 =>
        refine ⟨_, _, rfl, .inr ⟨rfl, _, by rw [← hK]; exact sqT_mono S2.sub q1.sq⟩, ?_⟩
        rw [← hK]
        exact q F2 H1 _ (s1.trans s2) S2 (walkD_E (fun _ _ _ _ s h => sqT_mono s h) (sqT_sz (K := C.K) S2.sz (sqT_mono S2.sub q1.sq)) q1.sq q2)
    | none => rw [hv] at e1; cases e1
    | bool b => rw [hv] at e1; cases e1
    | int b => rw [hv] at e1; cases e1
    | str b => rw [hv] at e1; cases e1
    | dict b => rw [hv] at e1; cases e1
  · obtain ⟨a, J, rfl, hJ, qR⟩ := q1
    obtain ⟨u, rfl, ru⟩ := vals1 r1
    cases ru
    have fin : ∀ {S : Hp → Addr → List V → Prop} {so : Heap → Addr → Array Value → Prop} {io : Heap → Addr → Addr → Nat → Prop} {ob : Addr → Obj} (Rr : Src X.prog X.w X.K S so io ob) (xs : List V), S H1 a xs → R (ItE S a 0) H1 →
        wpAny (model X.prog X.w) X.A (call (.type "enumerate") [.ref a]) (fun v s1 => wpAny (model X.prog X.w) X.A (pyIter v) (PIE X pins σ (.Tuple elts kk tpos) R) X.xe s1) X.xe s1 := fun {S so io ob} Rr xs hx qR => by
      obtain ⟨its, rv, hso⟩ := Rr.read X rfl rfl rfl pins σ H1 s1 a xs I1 hx
      have hlt := Rr.lt _ _ _ hso
      refine call_enum1 (Rr.begins a its.toArray) hso fun h' hE hI hk => wpAny_pyIter_enum hE ?_
      have I2 : Inv X pins σ H1 { s1 with heap := h' } := I1.kept (t' := s1.toks) hk
      refine ⟨s1.heap.objs.size + 1, [s1.heap.objs.size + 1, s1.heap.objs.size], _, _, H1, rfl, I2, turn_E Rr a (s1.heap.objs.size + 1) s1.heap.objs.size 0 (Nat.succ_ne_self _) (Nat.ne_of_gt (Nat.lt_succ_of_lt hlt)) (Nat.ne_of_lt hlt), ⟨⟨.none, hE⟩, Rr.first _ _ _ hI⟩, fun b hb => ?_, qR⟩
      have e' : b = s1.heap.objs.size + 1 ∨ b = s1.heap.objs.size := by simpa using hb
      have hle : s1.heap.objs.size ≤ b := by
        rcases e' with z | z
        · rw [z]; exact Nat.le_succ _
        · rw [z]; exact Nat.le_refl _
      exact I1.fpOk hle (I1.hok.fresh hle)
    rcases hJ with ⟨rfl, xs, hx⟩ | ⟨rfl, xs, hx⟩
    · exact fin src_list xs hx qR
    · exact fin src_tup xs hx qR
/-- zip(e, e2) -/
theorem fi_zip (wm : WM W) (hK : C.K = X.K) {elts : List Expr} {kk : Nat} {tpos : Pos} (hg : Gl X "zip") (hm : X.mg "zip" = none) (he : PE X e (rd C W m)) (he2 : PE X e2 (rd C W n)) (hs : starEach [e, e2] X.env = (false, eval e X.env) :: starEach [e2] X.env)
    (hs2 : starEach [e2] X.env = [(false, eval e2 X.env)]) (hpl : (backTo pos (starEach [e2] X.env)).any (·.1) = false) : PI X (.Tuple elts kk tpos) (.Call (.Name "zip" p) [e, e2] [] pos) (rdI C W true (itZip m n)) := by
  refine ⟨fun pins s σ H R I q => ?_⟩
  obtain ⟨F, ρ, S, q⟩ := q
  have q := Pst.bnd.mp q
  have ha : PA X [e, e2] (tCons (rd C W m) (tCons (rd C W n) tNil)) := pa_cons he (pa_cons he2 pa_nil hs2) hs
  let Kd : Nat → (Hp → Addr → List V → Prop) := fun k => if k = 0 then SqL X.K else SqT X.K
  have seq : ∀ {F H : Hp} {ρ : Rho} {x : V} {d : D} {ds : List D}, Sim C F ρ σ H → Dq C.K F x d → seqOf d = some ds → ∃ k a xs, k < 2 ∧ x = .ref a ∧ Kd k F a xs ∧ DqAll C.K F xs ds ∧ xs.length ≤ sizeLine := fun {F H ρ x d ds} S h e => by
    cases d with
    | list ds' =>
      cases e
      cases h with
      | lst q1 q2 => exact ⟨0, _, _, by decide, rfl, by show SqL X.K F _ _; rw [← hK]; exact q1, q2, sqL_sz S.sz (sqL_mono S.sub q1)⟩
    | tuple ds' =>
      cases e
      cases h with
      | tup q1 q2 => exact ⟨1, _, _, by decide, rfl, by show SqT X.K F _ _; rw [← hK]; exact q1.sq, q2, sqT_sz (K := C.K) S.sz (sqT_mono S.sub q1.sq)⟩
    | none => cases e
    | bool b => cases e
    | int b => cases e
    | str b => cases e
    | dict b => cases e
  have mono : ∀ k H H' b ys, Same H H' → Kd k H b ys → Kd k H' b ys := fun k H H' b ys s h => by
    by_cases hk : k = 0
    · subst hk; exact sqL_mono s h
    · have e : Kd k = SqT X.K := if_neg hk
      rw [e] at h ⊢
      exact sqT_mono s h
  refine Call_ (ld_blt I hg hm boot_zip (PyProof.Rows.callWith_type1 (thn (ha.run pos pins s σ H (fun vs H1 => ∃ k1 k2 a b xs ys, k1 < 2 ∧ k2 < 2 ∧ vs = [.ref a, .ref b] ∧ Kd k1 H1 a xs ∧ Kd k2 H1 b ys ∧ R (ItZ (Kd k1) (Kd k2) a b) H1) I
    ⟨F, ρ, S, q.imp fun v ρ1 q F1 H1 x s1 S1 r => ?_⟩) fun us s1 ⟨vs, H1, I1, r1, q1⟩ => ?_) hs hpl))
  · obtain ⟨F2, s2, S2, d2⟩ := S1.freeze r
    have q := Pst.bnd.mp (Pst.mono wm (s1.trans s2) q)
    refine ⟨F2, ρ1, S2, q.imp fun u ρ2 q F3 H3 y s3 S3 r3 => ?_⟩
    obtain ⟨F4, s4, S4, d4⟩ := S3.freeze r3
    have q := Pst.bnd.mp q
    obtain ⟨ds, e1, q⟩ := q.lift
    have q := Pst.bnd.mp q
    obtain ⟨es, e2, q⟩ := q.lift
    obtain ⟨k1, a, xs, hk1, rfl, h1, h2, z1⟩ := seq S4 (dp_mono (s3.trans s4) _ _ d2) e1
    obtain ⟨k2, b, ys, hk2, rfl, h3, h4, z2⟩ := seq S4 d4 e2
    exact ⟨k1, k2, a, b, xs, ys, hk1, hk2, rfl, mono _ _ _ _ _ S4.sub h1, mono _ _ _ _ _ S4.sub h3, q F4 H3 _ (((s1.trans s2).trans s3).trans s4) S4 (walkD_Z (mono k1) (mono k2) z1 h1 h2 h3 h4)⟩
  · obtain ⟨k1, k2, a, b, xs, ys, hk1, hk2, rfl, hx, hy, qR⟩ := q1
    obtain ⟨u1, u2, rfl, ru1, ru2⟩ := vals2 r1
    cases ru1
    cases ru2
    have fin : ∀ {S1 S2 : Hp → Addr → List V → Prop} {so1 so2 : Heap → Addr → Array Value → Prop} {io1 io2 : Heap → Addr → Addr → Nat → Prop} {ob1 ob2 : Addr → Obj} (Ra : Src X.prog X.w X.K S1 so1 io1 ob1) (Rb : Src X.prog X.w X.K S2 so2 io2 ob2), S1 H1 a xs → S2 H1 b ys → R (ItZ S1 S2 a b) H1 →
        wpAny (model X.prog X.w) X.A (call (.type "zip") [.ref a, .ref b]) (fun v s1 => wpAny (model X.prog X.w) X.A (pyIter v) (PIE X pins σ (.Tuple elts kk tpos) R) X.xe s1) X.xe s1 := fun {S1 S2 so1 so2 io1 io2 ob1 ob2} Ra Rb hx hy qR => by
      obtain ⟨its1, rv1, hso1⟩ := Ra.read X rfl rfl rfl pins σ H1 s1 a xs I1 hx
      obtain ⟨its2, rv2, hso2⟩ := Rb.read X rfl rfl rfl pins σ H1 s1 b ys I1 hy
      have lt1 := Ra.lt _ _ _ hso1
      have lt2 := Rb.lt _ _ _ hso2
      refine zip_begins2 (Ra.begins a its1.toArray) (Rb.begins b its2.toArray) hso1 hso2 fun h' hz hTI hTO g1 g2 hsz hk => wpAny_pyIter_zip hz ?_
      have I2 : Inv X pins σ H1 { s1 with heap := h' } := I1.kept (t' := s1.toks) hk
      have D := zip_sep2 (N := s1.heap.objs.size) (fp1 := [a]) (fp2 := [b]) (by intro c hc; rw [List.mem_singleton.mp hc]; exact lt1) (by intro c hc; rw [List.mem_singleton.mp hc]; exact lt2)
      refine ⟨s1.heap.objs.size + 4, [s1.heap.objs.size + 4, s1.heap.objs.size + 2, s1.heap.objs.size + 3, s1.heap.objs.size, s1.heap.objs.size + 1], _, _, H1, rfl, I2, turn_Z Ra Rb D (Nat.ne_of_lt lt1) (Nat.ne_of_lt (Nat.lt_succ_of_lt lt2)), ⟨hz, hTI, ⟨_, _, hTO⟩, Ra.first _ _ _ g1, Rb.first _ _ _ g2⟩, fun c hc => ?_, qR⟩
      have e' : c = s1.heap.objs.size + 4 ∨ c = s1.heap.objs.size + 2 ∨ c = s1.heap.objs.size + 3 ∨ c = s1.heap.objs.size ∨ c = s1.heap.objs.size + 1 := by simpa using hc
      have hle : s1.heap.objs.size ≤ c := by
        rcases e' with z | z | z | z | z
        · rw [z]; exact Nat.le_add_right _ _
        · rw [z]; exact Nat.le_add_right _ _
        · rw [z]; exact Nat.le_add_right _ _
        · rw [z]; exact Nat.le_refl _
        · rw [z]; exact Nat.le_add_right _ _
      exact I1.fpOk hle (I1.hok.fresh hle)
    have kd : ∀ k, k < 2 → k = 0 ∨ k = 1 := fun k h => by omega
    rcases kd k1 hk1 with rfl | rfl <;> rcases kd k2 hk2 with rfl | rfl
    · exact fin src_list src_list hx hy qR
    · exact fin src_list src_tup hx hy qR
    · exact fin src_tup src_list hx hy qR
    · exact fin src_tup src_tup hx hy qR

/-! ### list(range(..)), tuple(range(..)) -/
theorem rgV_dps {F : Hp} (a b : Int) : DqAll C.K F (rgV a b) (rng a 1 (b - a).toNat) := by
  unfold rgV rng
  generalize (b - a).toNat = k
  induction k with
  | zero => exact .nil
  | succ k ih =>
    rw [List.range_succ, List.map_append, List.map_append]
    refine dps_append ih (.cons ?_ .nil)
    show Dq C.K F (.int (a + (k : Nat))) (.int (a + (k : Int) * 1))
    rw [Int.mul_one]
    exact .int _
end
end FK

/-! FkE1: targets; several values stored; comprehensions. -/
namespace FK
open PySem L2 PyProof.Rows

/-! ### targets -/
def GPost (C : Ct) (F : Hp) (σ : L2.St) (vs : List Nat) (Q : L2.St → Hp → Prop) (ρ' : Rho) : Prop :=
  ∀ F' σ' H', Same F F' → Sim C F' ρ' σ' H' → (∀ i : Nat, i ∉ vs → σ'[i]? = σ[i]?) → σ'.length = σ.length → Q σ' H'
def Tgt.isTup : Tgt → Bool
  | .nm _ => false
  | .tup _ => true
/-- what is put: a datum as it lies; for a target of several names any tuple -/
def DqW (C : Ct) (t : Tgt) (F H : Hp) (x : V) (d : FK.D) : Prop := Dq C.K F x d ∨ t.isTup = true ∧ ∃ T xs ds, x = .ref T ∧ SqT C.K H T xs ∧ d = .tuple ds ∧ DqAll C.K F xs ds
def rdG (C : Ct) (W : Wish) (t : Tgt) : TG := fun x σ H Q => ∃ F ρ d, Sim C F ρ σ H ∧ DqW C t F H x d ∧ Pst W F σ (t.put d ρ) fun _ ρ' => GPost C F σ t.slots Q ρ'
def rdGs (C : Ct) (W : Wish) (ts : List Tgt) : TGs := fun xs σ H Q => ∃ F ρ ds, Sim C F ρ σ H ∧ DqAll C.K F xs ds ∧ Pst W F σ (Tgt.putAll ts ds ρ) fun _ ρ' => GPost C F σ (Tgt.slotsAll ts) Q ρ'
section
variable {X : Cx} {C : Ct} {W : Wish} {e : Expr} {pos : Pos}
theorem setS_ok {α : Type} {W : Wish} {F : Hp} {σ : L2.St} {i : Nat} {v : Val} {ρ : Rho} {k : Unit → Rho → Prop} (h : Pst W F σ (setS i v ρ) k) : i < ρ.length ∧ k () (ρ.set i (some v)) := by
  unfold setS at h
  split at h
  · rename_i hi
    exact ⟨hi, h⟩
  · exact False.elim h
theorem gp_name {i : Nat} {x : V} {σ : L2.St} {H : Hp} {Q : L2.St → Hp → Prop} (hb : ∀ q ∈ C.Bs, q.1 ≠ i) (q : rdG C W (.nm i) x σ H Q) : gName i x σ H Q := by
  obtain ⟨F, ρ, d, S, h, q⟩ := q
  have h : Dq C.K F x d := h.elim id fun z => nomatch z.1
  have q : Pst W F σ (setS i (.fz d) ρ) fun _ ρ' => GPost C F σ (Tgt.slots (.nm i)) Q ρ' := by
    have := q
    unfold Tgt.put at this
    exact this
  obtain ⟨_, q⟩ := setS_ok (α := Unit) q
  refine q F _ H (Same.refl F) (S.put (v := .fz d) h hb) (fun j hj => ?_) (by rw [List.length_set])
  have : i ≠ j := fun z => hj (by rw [z]; unfold Tgt.slots; exact List.mem_cons_self)
  rw [List.getElem?_set_ne this]
theorem fg_name {i : Nat} {x : Str} (hN : X.N.Nodup) (hi : X.N[i]? = some x) (hx : Loc X.env.scope x) (hf : X.fn x = true ∨ X.env.scope.names.lookup x = some .local) (hb : ∀ q ∈ C.Bs, q.1 ≠ i) : PG X (.Name x pos) (rdG C W (.nm i)) :=
  PG.imp (pg_name hN hi hx hf) fun v σ H Q q => gp_name hb q
theorem fg_nil : PGs X [] (rdGs C W []) := ⟨fun pins s σ H vs us Q I r q => pgs_nil.run pins s σ H vs us Q I r (by
  obtain ⟨F, ρ, ds, S, h, q⟩ := q
  cases ds with
  | nil =>
    cases h
    exact ⟨rfl, (show GPost C F σ _ Q ρ from q) F σ H (Same.refl F) S (fun _ _ => rfl) rfl⟩
  | cons d ds => exact False.elim q)⟩
theorem fg_cons (wm : WM W) {es : List Expr} {t : Tgt} {ts : List Tgt} (h1 : PG X e (rdG C W t)) (h2 : PGs X es (rdGs C W ts)) (hs : (assignEach (e :: es) X.env).map (·.2) = assign e X.env :: (assignEach es X.env).map (·.2)) : PGs X (e :: es) (rdGs C W (t :: ts)) :=
  ⟨fun pins s σ H vs us Q I r q => (pgs_cons h1 h2 hs).run pins s σ H vs us Q I r (by
    obtain ⟨F, ρ, ds, S, h, q⟩ := q
    cases ds with
    | nil => exact False.elim q
    | cons d ds =>
      cases h with
      | cons hd hds =>
        unfold Tgt.putAll at q
        have q := Pst.bnd.mp q
        refine ⟨_, _, rfl, F, ρ, d, S, .inl hd, q.imp fun _ ρ1 q F1 σ1 H1 s1 S1 k1 l1 => ?_⟩
        refine ⟨F1, ρ1, ds, S1, dps_mono s1 _ _ hds, (Pst.monoS wm s1 q).imp fun _ ρ2 q F2 σ2 H2 s2 S2 k2 l2 => ?_⟩
        refine q F2 σ2 H2 (s1.trans s2) S2 (fun i hi => ?_) (l2.trans l1)
        unfold Tgt.slotsAll at hi
        rw [k2 i fun z => hi (List.mem_append_right _ z), k1 i fun z => hi (List.mem_append_left _ z)])⟩
theorem fg_tup (hc : X.calm = true) (hK : C.K = X.K) {es : List Expr} {ts : List Tgt} {k : Nat} (h : PGs X es (rdGs C W ts)) (hn : (assignEach es X.env).length = ts.length) (hst : (assignEach es X.env).findIdx? (·.1) = none) : PG X (.Tuple es k pos) (rdG C W (.tup ts)) :=
  PG.imp (pg_tup hc h hn hst) fun v σ H Q q => by
    obtain ⟨F, ρ, d, S, h, q⟩ := q
    cases d with
    | tuple ds =>
      have hh : ∃ a xs, v = .ref a ∧ SqT C.K H a xs ∧ DqAll C.K F xs ds := by
        rcases h with h | ⟨_, a, xs, ds', rfl, h1, h2, h3⟩
        · cases h with
          | tup h1 h2 => exact ⟨_, _, rfl, sqT_mono S.sub h1.sq, h2⟩
        · cases h2
          exact ⟨a, xs, rfl, h1, h3⟩
      obtain ⟨a, xs, rfl, h1, h2⟩ := hh
      · have es : Tgt.slots (.tup ts) = Tgt.slotsAll ts := by rw [Tgt.slots]
        unfold Tgt.put at q
        rw [es] at q
        by_cases hl : ds.length = ts.length
        · rw [if_pos hl] at q
          exact ⟨a, xs, rfl, by rw [← hK]; exact h1, by rw [dps_length h2]; exact hl, F, ρ, ds, S, h2, q⟩
        · rw [if_neg hl] at q
          exact False.elim q
    | none => exact False.elim q
    | bool _ => exact False.elim q
    | int _ => exact False.elim q
    | str _ => exact False.elim q
    | list _ => exact False.elim q
    | dict _ => exact False.elim q
end

/-! ### several values -/
/-- the values lie apart -/
def RVs (C : Ct) (F : Hp) (ρ : Rho) (σ : L2.St) (H : Hp) : List Val → List V → Prop
  | [], [] => True
  | v :: vs, x :: xs => RV C F ρ σ H v x ∧ (∀ w, v.own = some w → ∀ (j : Nat) u y, vs[j]? = some u → u.own = some y → xs[j]? ≠ some x) ∧ RVs C F ρ σ H vs xs
  | _, _ => False
def rdTs (C : Ct) (W : Wish) (m : M (List Val)) : TA := fun σ H Q => ∃ Z F ρ, Sim (C.wz Z) F ρ σ H ∧ Pst W F σ (m ρ) fun vs ρ' => ∀ F' H' xs, Same F F' → Sim (C.wz Z) F' ρ' σ H' → RVs (C.wz Z) F' ρ' σ H' vs xs → Q xs H'
/-- whatever waits meanwhile -/
def rdZ (C : Ct) (W : Wish) (m : M Val) : TE := fun σ H Q => ∃ Z, rd (C.wz Z) W m σ H Q
section
variable {X : Cx} {C : Ct} {W : Wish} {e : Expr} {es : List Expr} {m : M Val} {ms : List (M Val)} {F H : Hp} {ρ : Rho} {σ : L2.St}
theorem rv_out {Z : Hp} {p : Addr} {o : HO} {v : Val} {x : V} (h1 : RV (C.wz (upd C.Z p o)) F ρ σ H v x) : RV C F ρ σ H v x ∧ ∀ w, v.own = some w → x ≠ .ref p := by
  rcases own_cases v with ⟨d, rfl⟩ | ⟨w, hw⟩
  · exact ⟨h1, fun _ z => nomatch z⟩
  · rw [rv_own hw] at h1 ⊢
    obtain ⟨q, o', rfl, a1, a2, a3, a4, a5, a6⟩ := h1
    have a5' : upd C.Z p o q = none := a5
    have ne : q ≠ p := fun z => by
      rw [z, upd_same] at a5'; cases a5'
    refine ⟨⟨q, o', rfl, a1, a2, a3, a4, ?_, a6⟩, fun _ _ z => ne (by injection z)⟩
    rw [upd_ne ne] at a5'
    exact a5'
theorem rvs_out {p : Addr} {o : HO} : ∀ {vs : List Val} {xs : List V}, RVs (C.wz (upd C.Z p o)) F ρ σ H vs xs → RVs C F ρ σ H vs xs ∧ ∀ (j : Nat) u y, vs[j]? = some u → u.own = some y → xs[j]? ≠ some (.ref p)
  | [], [], _ => ⟨trivial, fun j u y h => by simp at h⟩
  | [], _ :: _, h => h.elim
  | _ :: _, [], h => h.elim
  | v :: vs, x :: xs, ⟨h1, h2, h3⟩ => by
    obtain ⟨k1, k2⟩ := rvs_out h3
    have r := rv_out (Z := C.Z) h1
    refine ⟨⟨r.1, h2, k1⟩, fun j u y h hy => ?_⟩
    cases j with
    | zero =>
      have : v = u := by simpa using h
      subst this
      intro z
      exact r.2 y hy (by simpa using z)
    | succ j => simpa using k2 j u y (by simpa using h) hy
theorem ts_nil {Q : List V → Hp → Prop} (q : rdTs C W (temps []) σ H Q) : tNil σ H Q := by
  obtain ⟨Z, F, ρ, S, q⟩ := q
  exact q F H [] (Same.refl F) S trivial
theorem ts_cons (wm : WM W) {Q : List V → Hp → Prop} (q : rdTs C W (temps (m :: ms)) σ H Q) : tCons (rdZ C W m) (rdTs C W (temps ms)) σ H Q := by
  obtain ⟨Z, F, ρ, S, q⟩ := q
  have q := Pst.bnd.mp q
  refine ⟨Z, F, ρ, S, q.imp fun v ρ1 q F1 H1 x s1 S1 r => ?_⟩
  have q := Pst.bnd.mp (Pst.mono wm s1 q)
  rcases own_cases v with ⟨d, rfl⟩ | ⟨w, hw⟩
  · exact ⟨Z, F1, ρ1, S1, q.imp fun vs ρ2 q F2 H2 xs s2 S2 rs => q F2 H2 (x :: xs) (s1.trans s2) S2 ⟨dp_mono s2 _ _ r, fun _ z => (nomatch z), rs⟩⟩
  · rw [rv_own hw] at r
    obtain ⟨p, o, rfl, a1, a2, a3, a4, a5, a6⟩ := r
    refine ⟨upd Z p o, F1, ρ1, S1.lock (C := C.wz Z) a1 a2 a3.ntbl a6, q.imp fun vs ρ2 q F2 H2 xs s2 S2 rs => ?_⟩
    obtain ⟨S3, b1, b2, b3⟩ := Sim.unlock (C := C.wz Z) S2 a5
    obtain ⟨rs', b4⟩ := rvs_out (C := C.wz Z) rs
    exact q F2 H2 (.ref p :: xs) (s1.trans s2) S3 ⟨by rw [rv_own hw]; exact ⟨p, o, rfl, b2, b1, a3.mono s2, a4, a5, b3⟩, fun _ _ j u y h hy => b4 j u y h hy, rs'⟩
theorem fts_nil : PA X [] (rdTs C W (temps [])) := PA.imp pa_nil fun σ H Q q => ts_nil q
theorem fts_cons (wm : WM W) (he : PE X e (rdZ C W m)) (hr : PA X es (rdTs C W (temps ms))) (hs : starEach (e :: es) X.env = (false, eval e X.env) :: starEach es X.env) : PA X (e :: es) (rdTs C W (temps (m :: ms))) :=
  PA.imp (pa_cons he hr hs) fun σ H Q q => ts_cons wm q
theorem fz_e (h : ∀ Z, PE X e (rd (C.wz Z) W m)) : PE X e (rdZ C W m) := ⟨fun pins s σ H Q I ⟨Z, q⟩ => (h Z).run pins s σ H Q I q⟩
end

/-! ### comprehensions -/
theorem wipe_eq {σ τ : L2.St} (hl : σ.length = τ.length) : ∀ (vs : List Nat), (∀ i : Nat, i ∉ vs → σ[i]? = τ[i]?) → wipe σ vs = wipe τ vs := by
  have get : ∀ (σ : L2.St) (vs : List Nat) (i : Nat), (wipe σ vs)[i]? = if i ∈ vs then (if i < σ.length then some none else none) else σ[i]? := by
    intro σ vs
    induction vs with
    | nil => intro i; simp [wipe]
    | cons v vs ih =>
      intro i
      unfold wipe
      by_cases hv : v = i
      · subst hv
        by_cases hlt : v < (wipe σ vs).length
        · rw [List.getElem?_set_self hlt]
          rw [wipe_length] at hlt
          simp [hlt]
        · rw [List.getElem?_eq_none (by rw [List.length_set]; omega)]
          rw [wipe_length] at hlt
          simp [hlt]
      · rw [List.getElem?_set_ne hv, ih]
        have : (i ∈ v :: vs) ↔ i ∈ vs := by simp [List.mem_cons, Ne.symm hv]
        simp only [this]
  intro vs h
  apply List.ext_getElem?
  intro i
  rw [get, get, hl]
  by_cases hi : i ∈ vs
  · rw [if_pos hi, if_pos hi]
  · rw [if_neg hi, if_neg hi]
    exact h i hi
section
variable {C : Ct} {F H : Hp} {ρ : Rho} {σ : L2.St} {W : Wish}
/-- behind a turn the slots of the block are forgotten -/
theorem Sim.rewipe {σ2 : L2.St} {vs : List Nat} (S : Sim C F ρ σ2 H) (hb : ∀ q ∈ C.Bs, q.1 ∉ vs) (he : wipe σ2 vs = wipe σ vs) : Sim C F (wipeR ρ vs) (wipe σ vs) H := by
  have := S.wiped vs hb
  rw [he] at this
  exact this
theorem wipeR_get {ρ : Rho} : ∀ (vs : List Nat) (i : Nat), (wipeR ρ vs)[i]? = if i ∈ vs then (if i < ρ.length then some none else none) else ρ[i]?
  | [], i => by simp [wipeR]
  | v :: vs, i => by
    have hlen : ∀ ws : List Nat, (wipeR ρ ws).length = ρ.length := fun ws => by
      induction ws with
      | nil => rfl
      | cons w ws ih => simp [wipeR, ih]
    unfold wipeR
    by_cases hv : v = i
    · subst hv
      by_cases hlt : v < ρ.length
      · rw [List.getElem?_set_self (by rw [hlen]; exact hlt)]; simp [hlt]
      · rw [List.getElem?_eq_none (by rw [List.length_set, hlen]; omega)]; simp [hlt]
    · rw [List.getElem?_set_ne hv, wipeR_get vs i]
      have : (i ∈ v :: vs) ↔ i ∈ vs := by simp [List.mem_cons, Ne.symm hv]
      simp only [this]
/-- the block is left: the slots as they stood ahead of it -/
theorem Sim.restored {F1 : Hp} {ρ' : Rho} {H' : Hp} {vs : List Nat} (S0 : Sim C F ρ σ H) (S : Sim C F1 ρ' (wipe σ vs) H') (sm : Same F F1) (no : noOw ρ vs = true) (hl : ρ'.length = ρ.length) : Sim C F1 (restore ρ ρ' vs) σ H' := by
  have get := restore_get hl vs
  have wget : ∀ i : Nat, i ∉ vs → (wipe σ vs)[i]? = σ[i]? := fun i hi => wipe_out hi
  have lenr : (restore ρ ρ' vs).length = ρ.length := by
    have : ∀ ws : List Nat, (restore ρ ρ' ws).length = ρ.length := fun ws => by
      induction ws with
      | nil => exact hl
      | cons w ws ih => simp [restore, ih]
    exact this vs
  have owout : ∀ (i : Nat) (v : Val) (w : Own), (restore ρ ρ' vs)[i]? = some (some v) → v.own = some w → i ∉ vs ∧ ρ'[i]? = some (some v) := fun i v w h hw => by
    rw [get] at h
    split at h
    · rename_i hc
      exfalso
      have : ρ[i]? = some (some v) := by
        rw [List.getElem?_eq_getElem hc.2] at h ⊢
        simpa using h
      have q := List.all_eq_true.mp no i hc.1
      rw [this] at q
      simp [isOwn, hw] at q
    · rename_i hc
      refine ⟨fun z => hc ⟨z, ?_⟩, h⟩
      rw [← hl]
      exact (List.getElem?_eq_some_iff.mp h).1
  refine ⟨by rw [lenr]; exact S0.len, S.sub, S.sz, fun i d h => ?_, fun i v w h hw => ?_, fun i j v u w y p ne h1 k1 h2 k2 h3 => ?_, S0.brs, S.bt, S.ext, S.ht, S.f0, S.new, fun a u e => ?_, S.tb, S.nt⟩
  · rw [get] at h
    split at h
    · rename_i hc
      have : ρ[i]? = some (some (.fz d)) := by
        rw [List.getElem?_eq_getElem hc.2] at h ⊢
        simpa using h
      obtain ⟨x, k1, k2⟩ := S0.fz i d this
      exact ⟨x, k1, dp_mono sm _ _ k2⟩
    · rename_i hc
      have hi : i ∉ vs := fun z => hc ⟨z, by rw [← hl]; exact (List.getElem?_eq_some_iff.mp h).1⟩
      obtain ⟨x, k1, k2⟩ := S.fz i d h
      rw [wget i hi] at k1
      exact ⟨x, k1, k2⟩
  · obtain ⟨hi, h⟩ := owout i v w h hw
    obtain ⟨p, xs, k1, k2⟩ := S.ow i v w h hw
    rw [wget i hi] at k1
    exact ⟨p, xs, k1, k2⟩
  · obtain ⟨hi, h1⟩ := owout i v w h1 k1
    obtain ⟨hj, h2⟩ := owout j u y h2 k2
    have := S.dist i j v u w y p ne h1 k1 h2 k2
    rw [wget i hi, wget j hj] at this
    exact this h3
  · obtain ⟨h1, h2, h3, h4⟩ := S.zp a u e
    refine ⟨h1, h2, h3, fun i v w k hw => ?_⟩
    obtain ⟨hi, k⟩ := owout i v w k hw
    rw [← wget i hi]
    exact h4 i v w k hw
theorem restore_ow {F1 : Hp} {ρ' : Rho} {H' : Hp} {vs : List Nat} (no : noOw ρ vs = true) (hl : ρ'.length = ρ.length) {i : Nat} {v : Val} {w : Own} (h : (restore ρ ρ' vs)[i]? = some (some v)) (hw : v.own = some w) : i ∉ vs ∧ ρ'[i]? = some (some v) := by
  rw [restore_get hl vs] at h
  split at h
  · rename_i hc
    exfalso
    have : ρ[i]? = some (some v) := by
      rw [List.getElem?_eq_getElem hc.2] at h ⊢
      simpa using h
    have q := List.all_eq_true.mp no i hc.1
    rw [this] at q
    simp [isOwn, hw] at q
  · rename_i hc
    refine ⟨fun z => hc ⟨z, ?_⟩, h⟩
    rw [← hl]
    exact (List.getElem?_eq_some_iff.mp h).1
/-- a list that nobody else knows is changed -/
theorem Sim.poke {p : Addr} {ys : List V} {o : HO} (S : Sim C F ρ σ H) (h0 : H p = some o) (hn : ∀ ps, o ≠ .tbl ps) (h1 : F p = none) (h2 : C.Z p = none) (h3 : C.H0 p = none) (h4 : ∀ (i : Nat) (v : Val) (w : Own), ρ[i]? = some (some v) → v.own = some w → σ[i]? ≠ some (some (.ref p))) (hz : ys.length ≤ sizeLine) :
    Sim C F ρ σ (upd H p (.lst ys)) :=
  ⟨S.len, fun a u e => by rw [upd_ne (ne_of_none e h1)]; exact S.sub _ _ e, S.sz.new hz, S.fz, fun i v w e hw => by
    obtain ⟨q, zs, k1, k2, k3, k4, k5⟩ := S.ow i v w e hw
    have ne : q ≠ p := fun z => h4 i v w e hw (by rw [k1, z])
    exact ⟨q, zs, k1, k2, by rw [upd_ne ne]; exact k3, k4, k5⟩, S.dist, S.brs, fun q hq => by
    by_cases z : q.2 = p
    · exact ⟨_, by rw [z, upd_same], fun ps e => by cases e⟩
    · obtain ⟨u, e1, e2⟩ := S.bt q hq
      exact ⟨u, by rw [upd_ne z]; exact e1, e2⟩, fun a u e hb ht => by rw [upd_ne (ne_of_none e h3)]; exact S.ext a u e hb ht, fun a ps e => by
    obtain ⟨u, e1⟩ := S.ht a ps e
    exact ⟨u, by rw [upd_ne (ne_of_none e h3)]; exact e1⟩, S.f0, S.new, fun a u e => by
    obtain ⟨k1, k2, k3⟩ := S.zp a u e
    exact ⟨by rw [upd_ne (ne_of_none e h2)]; exact k1, k2, k3⟩, S.tb.keep (Same.refl F) (tb_chg h0 hn), S.nt⟩
/-- nothing may be raised -/
abbrev WF : Wish := fun _ _ _ _ _ => False
theorem wf : WM WF := fun _ _ _ _ _ _ _ _ h => h
def rdTZ (C : Ct) (m : M Bool) : TT := fun σ H Q => ∃ Z, rdT (C.wz Z) WF m σ H Q
def rdGZ (C : Ct) (t : Tgt) : TG := fun x σ H Q => ∃ Z, rdG (C.wz Z) WF t x σ H Q
/-- what is done behind the iterator's making -/
def tLcK (g : TG) (tt : TT) (te : TE) (vs : List Nat) (σ : L2.St) (Q : VK) : It → Hp → Prop := fun J H1 => tLc (fun _ H2 R => R J H2) g tt te vs σ H1 Q
theorem lc_at (wm : WM W) {wkb : Bool} {it : M (List FK.D)} {t : Tgt} {c : M Bool} {e : M Val} {vs : List Nat} {Q : VK} {F H : Hp} {ρ : Rho} (hb : ∀ q ∈ C.Bs, q.1 ∉ vs) (ht : ∀ i ∈ t.slots, i ∈ vs) (hwk : wkb = true → t.isTup = true) (S : Sim C F ρ σ H)
    (h : Pst W F σ (mComp vs it t c e ρ) fun v ρ' => ∀ F' H' x, Same F F' → Sim C F' ρ' σ H' → RV C F' ρ' σ H' v x → Q x H') :
    Pst W F σ (it ρ) fun ds ρ' => ∀ F' H' J, Same F F' → Sim C F' ρ' σ H' → WalkD C F' J wkb ds → tLcK (rdGZ C t) (rdTZ C c) (rdZ C WF e) vs σ Q J H' := by
  have h := Pst.bnd.mp h
  refine h.imp fun ds ρ1 q F1 H1 J s1 S1 wk D hD => ?_
  by_cases no : noOw ρ1 vs = true
  case neg => rw [if_neg no] at q; exact False.elim q
  rw [if_pos no] at q
  cases hc : compL t c e vs ds (wipeR ρ1 vs) with
  | exc c' ds' ρ' => rw [hc] at q; exact False.elim q
  | bad => rw [hc] at q; exact False.elim q
  | ok r ρ2 =>
    rw [hc] at q
    have hZ : C.Z D = none := S1.freeZ hD
    have h0 : C.H0 D = none := S1.free0 hD
    -- the state ahead of turn i
    let At : Nat → Hp → Prop := fun i H => ∃ F2 ρi acc xs, Same F1 F2 ∧ Sim (C.wz (upd C.Z D (.lst xs))) F2 ρi (wipe σ vs) H ∧ DqAll C.K F2 xs acc ∧ acc.length ≤ i ∧
      Pst WF F2 (wipe σ vs) (compL t c e vs (ds.drop i) ρi) fun rest ρ' => ρ' = ρ2 ∧ r = acc ++ rest
    refine ⟨fun i m H => m = ds.length - i ∧ i ≤ ds.length ∧ At i H, ⟨ds.length, by omega, Nat.zero_le _, F1, wipeR ρ1 vs, [], [], Same.refl F1, ?_, .nil, Nat.le_refl _, ?_⟩, ?_⟩
    · have S2 := (S1.own (xs := []) hD (Nat.zero_le _)).wiped vs hb
      refine S2.lock (S1.free hD) upd_same (fun ps e => by cases e) fun i v w k hw => ?_
      rw [wipeR_get] at k
      split at k
      · split at k <;> cases k
      · rename_i hi
        rw [wipe_out hi]
        obtain ⟨p, zs, k1, k2, k3, _⟩ := S1.ow i v w k hw
        rw [k1]
        intro z
        cases z
        rw [hD] at k3; cases k3
    · rw [List.drop_zero, hc]
      exact ⟨rfl, rfl⟩
    rintro i m H2 ⟨rfl, hi, F2, ρi, acc, xs, s2, S2, hd, hl, hp⟩
    have zs : Same C.Z H2 := fun a o k => (S2.zp a o (by
      show upd C.Z D (.lst xs) a = some o
      rw [upd_ne (ne_of_none k hZ)]
      exact k)).1
    by_cases hlt : i < ds.length
    · refine .inr ⟨wk.goes i H2 hlt (fun a o k => S2.sub _ _ (s2 _ _ k)) zs, At (i + 1), fun H' hA => ⟨ds.length - (i + 1), by omega, rfl, hlt, hA⟩, fun x H' hy => ?_⟩
      have hdrop : ds.drop i = ds[i] :: ds.drop (i + 1) := List.drop_eq_getElem_cons hlt
      rw [hdrop] at hp
      have hx := wk.yields i H2 x H' ds[i] (List.getElem?_eq_getElem hlt) (fun a o k => S2.sub _ _ (s2 _ _ k)) zs hy
      -- the item lies
      obtain ⟨F3, s3, S3, hdx⟩ : ∃ F3, Same F2 F3 ∧ Sim (C.wz (upd C.Z D (.lst xs))) F3 ρi (wipe σ vs) H' ∧ DqW C t F3 H' x ds[i] := by
        rcases hx with ⟨rfl, hx⟩ | ⟨hw, T, zs, ds', rfl, hT, rfl, hd', hz, hzl⟩
        · exact ⟨F2, Same.refl F2, S2, .inl (dp_mono s2 _ _ hx)⟩
        · exact ⟨F2, Same.refl F2, S2.laid hT (by show zs.length ≤ sizeLine; rw [dps_length hz]; exact hzl), .inr ⟨hwk hw, T, zs, ds', rfl, .inl (.inl upd_same), hd', dps_mono s2 _ _ hz⟩⟩
      unfold compL at hp
      have hp := Pst.bnd.mp (Pst.mono wf s3 hp)
      refine ⟨_, F3, ρi, ds[i], S3, hdx, hp.imp fun _ ρa hp F4 σ4 H4 s4 S4 k4 l4 => ⟨?_, ?_⟩⟩
      · exact wipe_eq (by rw [l4, wipe_length]) vs fun j hj => by rw [k4 j fun z => hj (ht j z), wipe_out hj]
      have hw : wipe σ4 vs = wipe σ vs := wipe_eq (by rw [l4, wipe_length]) vs fun j hj => by rw [k4 j fun z => hj (ht j z), wipe_out hj]
      have hp := Pst.bnd.mp (Pst.monoS (σ' := σ4) wf s4 hp)
      refine ⟨_, F4, ρa, S4, hp.imp fun b ρb hp F5 H5 s5 S5 => ?_⟩
      have hp := Pst.bnd.mp (Pst.mono wf s5 hp)
      cases b with
      | false =>
        rw [if_neg (by decide)] at hp
        show At (i + 1) H5
        have hp := Pst.bnd.mp (show Pst WF F5 σ4 _ _ from hp)
        obtain ⟨hS, g1, g2, g3⟩ := Sim.unlock S5 hZ
        refine ⟨F5, wipeR ρb vs, acc, xs, ((s2.trans s3).trans s4).trans s5, S5.rewipe hb hw, dps_mono ((s3.trans s4).trans s5) _ _ hd, Nat.le_succ_of_le hl, ?_⟩
        have hp := Pst.bnd.mp (show Pst WF F5 σ4 (bnd (compL t c e vs (ds.drop (i + 1))) (fun r => ret ([] ++ r)) (wipeR ρb vs)) _ from hp)
        exact Pst.monoS wf (Same.refl F5) (hp.imp fun rest ρ' q => q)
      | true =>
        rw [if_pos rfl] at hp
        show rdZ C WF e σ4 H5 fun y H4 => ∃ acc, H4 D = some (HO.lst acc) ∧ acc.length < sizeLine ∧ At (i + 1) (upd H4 D (HO.lst (acc ++ [y])))
        have hp := Pst.bnd.mp hp
        refine ⟨_, F5, ρb, S5, hp.imp fun v ρc hp F6 H6 y s6 S6 r6 => ?_⟩
        obtain ⟨F7, s7, S7, d7⟩ := S6.freeze r6
        obtain ⟨hS, g1, g2, g3⟩ := Sim.unlock S7 hZ
        have hxl : xs.length = acc.length := dps_length hd
        have hzn : ds.length ≤ sizeLine := wk.sz
        refine ⟨xs, g1, by omega, ?_⟩
        have S8 := hS.poke (ys := xs ++ [y]) g1 (fun ps e => by cases e) g2 hZ h0 g3 (by rw [List.length_append]; simp only [List.length_cons, List.length_nil]; omega)
        have S9 := S8.rewipe hb hw
        have hdd : DqAll C.K F7 (xs ++ [y]) (acc ++ [v.data]) := dps_append (dps_mono ((((s3.trans s4).trans s5).trans s6).trans s7) _ _ hd) (.cons d7 .nil)
        refine ⟨F7, wipeR ρc vs, acc ++ [v.data], xs ++ [y], (((((s2.trans s3).trans s4).trans s5).trans s6).trans s7), ?_, hdd, by rw [List.length_append]; simp only [List.length_cons, List.length_nil]; omega, ?_⟩
        · refine S9.lock g2 upd_same (fun ps e => by cases e) fun j v w k hy => ?_
          rw [wipeR_get] at k
          split at k
          · split at k <;> cases k
          · rename_i hj
            have e4 : (wipe σ vs)[j]? = σ4[j]? := by rw [← hw, wipe_out hj]
            rw [e4]
            exact g3 j v w k hy
        · have hp := Pst.bnd.mp (show Pst WF F5 σ4 (bnd (compL t c e vs (ds.drop (i + 1))) (fun r => ret ([v.data] ++ r)) (wipeR ρc vs)) _ from hp)
          refine Pst.monoS wf (s6.trans s7) (hp.imp fun rest ρ' q => ⟨q.1, ?_⟩)
          rw [q.2, List.append_assoc]
    · have hie : i = ds.length := by omega
      subst hie
      rw [List.drop_length] at hp
      obtain ⟨e1, e2⟩ : ρi = ρ2 ∧ r = acc ++ [] := hp
      subst e1
      rw [List.append_nil] at e2
      subst e2
      obtain ⟨hS, g1, g2, g3⟩ := Sim.unlock S2 hZ
      have hlen : ρi.length = ρ1.length := by rw [hS.len, wipe_length, S1.len]
      refine .inl ⟨wk.stops H2 (fun a o k => S2.sub _ _ (s2 _ _ k)) zs, q F2 H2 (.ref D) (s1.trans s2) (Sim.restored S1 hS s2 no hlen) ⟨D, .lst xs, rfl, g2, g1, ⟨xs, rfl, hd⟩, h0, hZ, fun j v w k hw => ?_⟩⟩
      obtain ⟨hj, k⟩ := restore_ow (F1 := F1) (H' := H2) no hlen k hw
      rw [← wipe_out (σ := σ) hj]
      exact g3 j v w k hw
theorem lc_go (wm : WM W) {wkb : Bool} {it : M (List FK.D)} {t : Tgt} {c : M Bool} {e : M Val} {vs : List Nat} {Q : VK} (hb : ∀ q ∈ C.Bs, q.1 ∉ vs) (ht : ∀ i ∈ t.slots, i ∈ vs) (hwk : wkb = true → t.isTup = true) (h : rd C W (mComp vs it t c e) σ H Q) :
    tLc (rdI C W wkb it) (rdGZ C t) (rdTZ C c) (rdZ C WF e) vs σ H Q := by
  obtain ⟨F, ρ, S, h⟩ := h
  exact ⟨F, ρ, S, lc_at wm hb ht hwk S h⟩
end
end FK

/-! FkE2: statements. -/
namespace FK
open PySem L2 PyProof.Rows

def RVro (C : Ct) (F H : Hp) (w : Own) (x : V) : Prop := ∃ p o, x = .ref p ∧ F p = none ∧ H p = some o ∧ OwnAt C.K F p o w ∧ C.H0 p = none
def RVr (C : Ct) (F H : Hp) (v : Val) (x : V) : Prop :=
  match v with
  | .fz d => Dq C.K F x d
  | .ow ds => RVro C F H (.lst ds) x
  | .od kvs => RVro C F H (.dic kvs) x
theorem rvr_own {C : Ct} {F H : Hp} {v : Val} {w : Own} {x : V} (h : v.own = some w) : RVr C F H v x = RVro C F H w x := by
  cases v with
  | fz d => cases h
  | ow ds => cases h; rfl
  | od kvs => cases h; rfl
theorem RV.r {C : Ct} {F H : Hp} {ρ : Rho} {σ : L2.St} {v : Val} {x : V} (h : RV C F ρ σ H v x) : RVr C F H v x := by
  rcases own_cases v with ⟨d, rfl⟩ | ⟨w, hw⟩
  · exact h
  · rw [rv_own hw] at h
    rw [rvr_own hw]
    obtain ⟨p, o, a1, a2, a3, a4, a5, _⟩ := h
    exact ⟨p, o, a1, a2, a3, a4, a5⟩
def PF (C : Ct) (F : Hp) (D : Ends) (f : Fl) (ρ' : Rho) : Prop :=
  match f with
  | .nx => ∀ F' σ' H', Same F F' → Sim C F' ρ' σ' H' → D.nx σ' H'
  | .bk => ∀ F' σ' H', Same F F' → Sim C F' ρ' σ' H' → D.bk σ' H'
  | .ct => ∀ F' σ' H', Same F F' → Sim C F' ρ' σ' H' → D.ct σ' H'
  | .rt v => ∀ F' σ' H' x, Same F F' → Sim C F' ρ' σ' H' → RVr C F' H' v x → D.rt x H'
theorem PF.mono {C : Ct} {F F' : Hp} {D : Ends} {f : Fl} {ρ : Rho} (s : Same F F') (h : PF C F D f ρ) : PF C F' D f ρ := by
  cases f with
  | nx => exact fun F2 σ2 H2 s2 => h F2 σ2 H2 (s.trans s2)
  | bk => exact fun F2 σ2 H2 s2 => h F2 σ2 H2 (s.trans s2)
  | ct => exact fun F2 σ2 H2 s2 => h F2 σ2 H2 (s.trans s2)
  | rt v => exact fun F2 σ2 H2 x s2 => h F2 σ2 H2 x (s.trans s2)
def rdS (C : Ct) (W : Wish) (m : MS) : TS := fun D σ H => ∃ F ρ, Sim C F ρ σ H ∧ Pst W F σ (m ρ) (PF C F D)
section
variable {X : Cx} {C : Ct} {W : Wish} {e : Expr} {pos : Pos} {st : Stmt} {rest : List Stmt} {m n : M Val} {a b : MS} {σ : L2.St} {H : Hp} {D : Ends}
theorem seq_go (wm : WM W) (q : rdS C W (sSeq a b) D σ H) : tSeq (rdS C W a) (rdS C W b) D σ H := by
  obtain ⟨F, ρ, S, q⟩ := q
  have q := Pst.bnd.mp q
  refine ⟨F, ρ, S, q.imp fun f ρ1 q => ?_⟩
  cases f with
  | nx => exact fun F' σ' H' s S' => ⟨F', ρ1, S', (Pst.monoS wm s q).imp fun f ρ2 q => PF.mono s q⟩
  | bk => exact q
  | ct => exact q
  | rt v => exact q
theorem fss_nil : PSs X [] (rdS C W sNx) := PSs.imp pss_nil fun D σ H ⟨F, ρ, S, q⟩ => q F σ H (Same.refl F) S
theorem fss_one (h : PS X st (rdS C W a)) : PSs X [st] (rdS C W a) := pss_one h
theorem fss_cons (wm : WM W) (h : PS X st (rdS C W a)) (h2 : PSs X rest (rdS C W b)) : PSs X (st :: rest) (rdS C W (sSeq a b)) := PSs.imp (pss_cons h h2) fun D σ H q => seq_go wm q
theorem fs_pass : PS X (.Pass pos) (rdS C W sNx) := PS.imp ps_pass fun D σ H ⟨F, ρ, S, q⟩ => q F σ H (Same.refl F) S
theorem fs_break : PS X (.Break pos) (rdS C W (ret .bk)) := PS.imp ps_break fun D σ H ⟨F, ρ, S, q⟩ => q F σ H (Same.refl F) S
theorem fs_continue : PS X (.Continue pos) (rdS C W (ret .ct)) := PS.imp ps_continue fun D σ H ⟨F, ρ, S, q⟩ => q F σ H (Same.refl F) S
theorem fs_doc {x j pos'} : PS X (.Expr (.Constant (.str x) j pos) pos') (rdS C W sNx) := PS.imp ps_doc fun D σ H ⟨F, ρ, S, q⟩ => q F σ H (Same.refl F) S
theorem fs_drop (he : PE X e (rd C W m)) (hs : swapsWith e none pos.line X.env = pure false) : PS X (.Expr e pos) (rdS C W (sDrop m)) := PS.imp (ps_expr he hs) fun D σ H ⟨F, ρ, S, q⟩ =>
  ⟨F, ρ, S, (Pst.bnd.mp q).imp fun v ρ1 q F1 H1 x s1 S1 r => q F1 σ H1 s1 S1⟩
theorem fs_ret (he : PE X e (rd C W m)) : PS X (.Return (some e) pos) (rdS C W (sRet m)) := PS.imp (ps_ret he) fun D σ H ⟨F, ρ, S, q⟩ =>
  ⟨F, ρ, S, (Pst.bnd.mp q).imp fun v ρ1 q F1 H1 x s1 S1 r => q F1 σ H1 x s1 S1 r.r⟩
theorem fs_retN : PS X (.Return none pos) (rdS C W (sRet (mC .none))) := PS.imp ps_retN fun D σ H ⟨F, ρ, S, q⟩ => q F σ H .non (Same.refl F) S .non
theorem fs_move {i : Nat} (he : PE X e (tVar i)) (hb : ∀ q ∈ C.Bs, q.1 ≠ i) : PS X (.Return (some e) pos) (rdS C W (sRet (mMove i))) := PS.imp (ps_ret he) fun D σ H ⟨F, ρ, S, q⟩ => by
  have q := Pst.bnd.mp q
  unfold mMove at q
  split at q
  · rename_i v e1
    rcases own_cases v with ⟨d, rfl⟩ | ⟨w, hw⟩
    · obtain ⟨x, h1, h2⟩ := S.fz _ _ e1
      exact ⟨x, h1, q F σ H x (Same.refl F) S h2⟩
    · obtain ⟨p, xs, h1, h2, h3, h4, h5⟩ := S.ow _ _ _ e1 hw
      have h6 : C.H0 p = none := h5.elim (fun h5 => absurd rfl (hb _ h5)) id
      exact ⟨_, h1, q F σ H _ (Same.refl F) S (by rw [rvr_own hw]; exact ⟨p, xs, rfl, h2, h3, h4, h6⟩)⟩
  · exact False.elim q
theorem fs_if (wm : WM W) {c : Expr} {t u : List Stmt} {mc : M Bool} (hc : PT X c (rdT C W mc)) (ha : PSs X t (rdS C W a)) (hb : PSs X u (rdS C W b)) : PS X (.If c t u pos) (rdS C W (sIf mc a b)) := PS.imp (ps_if hc ha hb) fun D σ H ⟨F, ρ, S, q⟩ => by
  refine ⟨F, ρ, S, (Pst.bnd.mp q).imp fun k ρ1 q F1 H1 s1 S1 => ?_⟩
  cases k with
  | true => exact ⟨F1, ρ1, S1, (Pst.mono wm s1 q).imp fun f ρ2 q => PF.mono s1 q⟩
  | false => exact ⟨F1, ρ1, S1, (Pst.mono wm s1 q).imp fun f ρ2 q => PF.mono s1 q⟩

/-! ### stores -/
theorem set_go {i : Nat} (hb : ∀ q ∈ C.Bs, q.1 ≠ i) (q : rdS C W (sSet i m) D σ H) : tAsg (rd C W m) (gName i) D σ H := by
  obtain ⟨F, ρ, S, q⟩ := q
  refine ⟨F, ρ, S, (Pst.bnd.mp q).imp fun v ρ1 q F1 H1 x s1 S1 r => ?_⟩
  have q := Pst.bnd.mp q
  obtain ⟨_, q⟩ := setS_ok (α := Unit) q
  exact q F1 _ H1 s1 (S1.put r hb)
theorem fs_set {i : Nat} {y : Str} {p : Pos} (hN : X.N.Nodup) (hi : X.N[i]? = some y) (hx : Loc X.env.scope y) (hf : X.fn y = true ∨ X.env.scope.names.lookup y = some .local) (hb : ∀ q ∈ C.Bs, q.1 ≠ i) (he : PE X e (rd C W m))
    (hs : swapsWithSole [.Name y p] e pos.line X.env = pure false) : PS X (.Assign [.Name y p] e pos) (rdS C W (sSet i m)) :=
  PS.imp (ps_asg he (pg_name (pos := p) hN hi hx hf) hs rfl rfl) fun D σ H q => set_go hb q
theorem put_go (wm : WM W) {t : Tgt} (q : rdS C W (sPut t m) D σ H) : tAsg (rd C W m) (rdG C W t) D σ H := by
  obtain ⟨F, ρ, S, q⟩ := q
  refine ⟨F, ρ, S, (Pst.bnd.mp q).imp fun v ρ1 q F1 H1 x s1 S1 r => ?_⟩
  obtain ⟨F2, s2, S2, d2⟩ := S1.freeze r
  have q := Pst.bnd.mp (Pst.mono wm (s1.trans s2) q)
  exact ⟨F2, ρ1, v.data, S2, .inl d2, q.imp fun _ ρ2 q F3 σ3 H3 s3 S3 _ _ => q F3 σ3 H3 ((s1.trans s2).trans s3) S3⟩
theorem fs_put (wm : WM W) {tg : Expr} {t : Tgt} (hg : PG X tg (rdG C W t)) (he : PE X e (rd C W m)) (hs : swapsWithSole [tg] e pos.line X.env = pure false) (hw : swappedStores [tg] e X.env = pure none) (h1 : (assignEach [tg] X.env).map (·.2) = [assign tg X.env]) :
    PS X (.Assign [tg] e pos) (rdS C W (sPut t m)) := PS.imp (ps_asg he hg hs hw h1) fun D σ H q => put_go wm q
/-- several names, several values -/
theorem rvs_put {F : Hp} {ρ : Rho} {i : Nat} {v : Val} {x : V} {vs : List Val} {xs : List V} (ap : ∀ w, v.own = some w → ∀ (j : Nat) u y, vs[j]? = some u → u.own = some y → xs[j]? ≠ some x) (hl : i < ρ.length) (hs : ρ.length = σ.length) :
    RVs C F ρ σ H vs xs → RVs C F (ρ.set i (some v)) (σ.set i (some x)) H vs xs := by
  revert xs
  induction vs with
  | nil => intro xs _ h; cases xs <;> exact h
  | cons w vs ih =>
    intro xs ap h
    cases xs with
    | nil => exact h
    | cons y xs =>
      obtain ⟨h1, h2, h3⟩ := h
      refine ⟨?_, h2, ih (fun ds e j u y k hy => by simpa using ap ds e (j + 1) u y (by simpa using k) hy) h3⟩
      rcases own_cases w with ⟨d, rfl⟩ | ⟨wo, hw⟩
      · exact h1
      · rw [rv_own hw] at h1 ⊢
        obtain ⟨p, zs, rfl, a1, a2, a3, a4, a5, a6⟩ := h1
        refine ⟨p, zs, rfl, a1, a2, a3, a4, a5, fun k u y e hy => ?_⟩
        by_cases hk : i = k
        · subst hk
          rw [List.getElem?_set_self hl] at e
          cases e
          rw [List.getElem?_set_self (by omega)]
          have := ap y hy 0 w wo (by simp) hw
          intro z
          apply this
          simpa using (Option.some.inj (Option.some.inj z)).symm
        · rw [List.getElem?_set_ne hk] at e
          rw [List.getElem?_set_ne hk]
          exact a6 k u y e hy
def gNames : List Nat → TGs
  | [] => gNil
  | i :: is => gCons (gName i) (gNames is)
def setSt : List Nat → List V → L2.St → L2.St
  | i :: is, x :: xs, σ => setSt is xs (σ.set i (some x))
  | _, _, σ => σ
theorem setAll_go {F : Hp} {ρ0 : Rho → Prop} : ∀ (is : List Nat) {vs : List Val} {xs : List V} {ρ : Rho} {σ σ0 : L2.St} {K : Rho → Prop}, (∀ i ∈ is, ∀ q ∈ C.Bs, q.1 ≠ i) → Sim C F ρ σ H → RVs C F ρ σ H vs xs → Pst W F σ0 (setAll is vs ρ) (fun _ ρ' => K ρ') →
    is.length = xs.length ∧ ∃ ρ', K ρ' ∧ Sim C F ρ' (setSt is xs σ) H
  | [], vs, xs, ρ, σ, σ0, K, hb, S, r, q => by
    cases vs with
    | nil =>
      cases xs with
      | nil => exact ⟨rfl, ρ, q, S⟩
      | cons _ _ => exact r.elim
    | cons _ _ => exact False.elim q
  | i :: is, vs, xs, ρ, σ, σ0, K, hb, S, r, q => by
    cases vs with
    | nil => exact False.elim q
    | cons v vs =>
      cases xs with
      | nil => exact r.elim
      | cons x xs =>
        obtain ⟨h1, h2, h3⟩ := r
        have q := Pst.bnd.mp q
        obtain ⟨hl, q⟩ := setS_ok (α := Unit) q
        obtain ⟨k1, ρ', k2, k3⟩ := setAll_go (ρ0 := ρ0) is (fun j hj => hb j (List.mem_cons_of_mem _ hj)) (S.put h1 (hb i List.mem_cons_self)) (rvs_put h2 hl S.len h3) q
        exact ⟨by simp [k1], ρ', k2, k3⟩
theorem gNames_go : ∀ (is : List Nat) {xs : List V} {σ : L2.St} {Q : L2.St → Hp → Prop}, is.length = xs.length → Q (setSt is xs σ) H → gNames is xs σ H Q
  | [], [], σ, Q, _, q => ⟨rfl, q⟩
  | [], _ :: _, _, _, h, _ => by simp at h
  | _ :: _, [], _, _, h, _ => by simp at h
  | i :: is, x :: xs, σ, Q, h, q => ⟨x, xs, rfl, gNames_go is (by simpa using h) q⟩
theorem par_go (wm : WM W) {is : List Nat} {ms : List (M Val)} (hb : ∀ i ∈ is, ∀ q ∈ C.Bs, q.1 ≠ i) (q : rdS C W (sPar is ms) D σ H) {R : List V → Hp → Prop}
    (i : ∀ F ρ ρ' xs H', Sim C F ρ σ H' → is.length = xs.length → Sim C F ρ' (setSt is xs σ) H' → (∀ F' H', Same F F' → Sim C F' ρ' (setSt is xs σ) H' → D.nx (setSt is xs σ) H') → R xs H') : rdTs C W (temps ms) σ H R := by
  obtain ⟨F, ρ, S, q⟩ := q
  have q := Pst.bnd.mp q
  refine ⟨C.Z, F, ρ, S, q.imp fun vs ρ1 q F1 H1 xs s1 S1 rs => ?_⟩
  have q := Pst.bnd.mp (Pst.mono wm s1 q)
  obtain ⟨k1, ρ', k2, k3⟩ := setAll_go (ρ0 := fun _ => True) is hb S1 rs q
  exact i F1 ρ1 ρ' xs H1 S1 k1 k3 fun F' H' s' S' => k2 F' _ H' (s1.trans s') S'
theorem szTup {xs : List V} (h : xs.length ≤ 1000) : xs.length ≤ sizeLine := Nat.le_trans h (by decide)
/-- by a new tuple -/
theorem parT_go (wm : WM W) (hK : C.K = X.K) {is : List Nat} {ms : List (M Val)} {k : Nat} (hk : k = is.length) (hl : is.length ≤ 1000) (hb : ∀ i ∈ is, ∀ q ∈ C.Bs, q.1 ≠ i) (q : rdS C W (sPar is ms) D σ H) : tAsg (tTup (rdTs C W (temps ms))) (gTup X.K k (gNames is)) D σ H := by
  subst hk
  refine par_go wm hb q fun F ρ ρ' xs H' S e S' kn => ⟨szTup (by rw [← e]; exact hl), fun p hp => ⟨p, xs, rfl, .inl (.inl upd_same), e.symm, gNames_go is e ?_⟩⟩
  exact kn F _ (Same.refl F) (S'.laid hp (szTup (by rw [← e]; exact hl)))
theorem par2_go (wm : WM W) {i j : Nat} {ms : List (M Val)} (hb : ∀ k ∈ [i, j], ∀ q ∈ C.Bs, q.1 ≠ k) (q : rdS C W (sPar [i, j] ms) D σ H) : tPar i j (rdTs C W (temps ms)) D σ H := by
  refine par_go wm hb q fun F ρ ρ' xs H' S e S' kn => ?_
  match xs, e with
  | [x, y], _ => exact ⟨x, y, rfl, kn F _ (Same.refl F) S'⟩
theorem par3_go (wm : WM W) {i j l : Nat} {ms : List (M Val)} (hb : ∀ k ∈ [i, j, l], ∀ q ∈ C.Bs, q.1 ≠ k) (q : rdS C W (sPar [i, j, l] ms) D σ H) : tPar3 i j l (rdTs C W (temps ms)) D σ H := by
  refine par_go wm hb q fun F ρ ρ' xs H' S e S' kn => ?_
  match xs, e with
  | [x, y, z], _ => exact ⟨x, y, z, rfl, kn F _ (Same.refl F) S'⟩

/-! ### loops -/
theorem for_go (wm : WM W) {wkb : Bool} {it : M (List FK.D)} {t : Tgt} (hwk : wkb = true → t.isTup = true) (q : rdS C W (sFor it t b) D σ H) : tFor (rdI C W wkb it) (rdG C W t) (rdS C W b) D σ H := by
  obtain ⟨F, ρ, S, q⟩ := q
  have q := Pst.bnd.mp q
  refine ⟨F, ρ, S, q.imp fun ds ρ1 q F1 H1 J s1 S1 wk => ?_⟩
  let At : Nat → L2.St → Hp → Prop := fun i σ H => ∃ F2 ρi, Same F1 F2 ∧ Sim C F2 ρi σ H ∧ Pst W F2 σ (forL t b (ds.drop i) ρi) (PF C F2 D)
  refine ⟨fun i m σ H => m = ds.length - i ∧ i ≤ ds.length ∧ At i σ H, ⟨ds.length, by omega, Nat.zero_le _, F1, ρ1, Same.refl F1, S1, ?_⟩, ?_⟩
  · rw [List.drop_zero]
    exact (Pst.mono wm s1 q).imp fun f ρ2 q => PF.mono s1 q
  rintro i m σ2 H2 ⟨rfl, hi, F2, ρi, s2, S2, hp⟩
  by_cases hlt : i < ds.length
  · refine .inr ⟨wk.goes i H2 hlt (fun a o k => S2.sub _ _ (s2 _ _ k)) (fun a o k => (S2.zp a o k).1), At (i + 1), fun σ' H' hA => ⟨ds.length - (i + 1), by omega, rfl, hlt, hA⟩, fun x H' hy => ?_⟩
    have hdrop : ds.drop i = ds[i] :: ds.drop (i + 1) := List.drop_eq_getElem_cons hlt
    rw [hdrop] at hp
    have hx := wk.yields i H2 x H' ds[i] (List.getElem?_eq_getElem hlt) (fun a o k => S2.sub _ _ (s2 _ _ k)) (fun a o k => (S2.zp a o k).1) hy
    obtain ⟨F3, s3, S3, hdx⟩ : ∃ F3, Same F2 F3 ∧ Sim C F3 ρi σ2 H' ∧ DqW C t F3 H' x ds[i] := by
      rcases hx with ⟨rfl, hx⟩ | ⟨hw, T, zs, ds', rfl, hT, rfl, hd', hz, hzl⟩
      · exact ⟨F2, Same.refl F2, S2, .inl (dp_mono s2 _ _ hx)⟩
      · exact ⟨F2, Same.refl F2, S2.laid hT (by show zs.length ≤ sizeLine; rw [dps_length hz]; exact hzl), .inr ⟨hwk hw, T, zs, ds', rfl, .inl (.inl upd_same), hd', dps_mono s2 _ _ hz⟩⟩
    unfold forL at hp
    have hp := Pst.bnd.mp (Pst.mono wm s3 hp)
    refine ⟨F3, ρi, ds[i], S3, hdx, hp.imp fun _ ρa hp F4 σ4 H4 s4 S4 _ _ => ?_⟩
    have hp := Pst.bnd.mp (Pst.monoS (σ' := σ4) wm s4 hp)
    refine ⟨F4, ρa, S4, hp.imp fun f ρb hp => ?_⟩
    have sm : Same F1 F4 := (s2.trans s3).trans s4
    cases f with
    | nx => exact fun F5 σ5 H5 s5 S5 => ⟨F5, ρb, sm.trans s5, S5, (Pst.monoS wm s5 hp).imp fun f ρ2 q => PF.mono ((s3.trans s4).trans s5) q⟩
    | ct => exact fun F5 σ5 H5 s5 S5 => ⟨F5, ρb, sm.trans s5, S5, (Pst.monoS wm s5 hp).imp fun f ρ2 q => PF.mono ((s3.trans s4).trans s5) q⟩
    | bk => exact fun F5 σ5 H5 s5 S5 => (show PF C F2 D .nx ρb from hp) F5 σ5 H5 ((s3.trans s4).trans s5) S5
    | rt v => exact fun F5 σ5 H5 x s5 S5 r => (show PF C F2 D (.rt v) ρb from hp) F5 σ5 H5 x ((s3.trans s4).trans s5) S5 r
  · have hie : i = ds.length := by omega
    subst hie
    rw [List.drop_length] at hp
    exact .inl ⟨wk.stops H2 (fun a o k => S2.sub _ _ (s2 _ _ k)) (fun a o k => (S2.zp a o k).1), (show PF C F2 D .nx ρi from hp) F2 σ2 H2 (Same.refl F2) S2⟩
theorem while_go (wm : WM W) {c : M Bool} {n : Nat} (q : rdS C W (whileL c b n) D σ H) : tWhile (rdT C W c) (rdS C W b) D σ H := by
  obtain ⟨F, ρ, S, q⟩ := q
  refine ⟨fun m σ H => ∃ F2 ρi, Same F F2 ∧ Sim C F2 ρi σ H ∧ Pst W F2 σ (whileL c b m ρi) (PF C F2 D), ⟨n, F, ρ, Same.refl F, S, q⟩, ?_⟩
  rintro m σ2 H2 ⟨F2, ρi, s2, S2, hp⟩
  cases m with
  | zero => exact False.elim hp
  | succ m =>
    unfold whileL at hp
    have hp := Pst.bnd.mp hp
    refine ⟨F2, ρi, S2, hp.imp fun k ρa hp F3 H3 s3 S3 => ?_⟩
    cases k with
    | false => exact (show PF C F2 D .nx ρa from hp) F3 σ2 H3 s3 S3
    | true =>
      rw [if_pos rfl]
      rw [if_pos rfl] at hp
      refine ⟨fun σ' H' => ∃ F4 ρb, Same F F4 ∧ Sim C F4 ρb σ' H' ∧ Pst W F4 σ' (whileL c b m ρb) (PF C F4 D), fun σ' H' hA => ⟨m, Nat.lt_succ_self m, hA⟩, ?_⟩
      have hp := Pst.bnd.mp (Pst.mono wm s3 hp)
      refine ⟨F3, ρa, S3, hp.imp fun f ρb hp => ?_⟩
      cases f with
      | nx => exact fun F5 σ5 H5 s5 S5 => ⟨F5, ρb, (s2.trans s3).trans s5, S5, (Pst.monoS wm s5 hp).imp fun f ρ2 q => PF.mono (s3.trans s5) q⟩
      | ct => exact fun F5 σ5 H5 s5 S5 => ⟨F5, ρb, (s2.trans s3).trans s5, S5, (Pst.monoS wm s5 hp).imp fun f ρ2 q => PF.mono (s3.trans s5) q⟩
      | bk => exact fun F5 σ5 H5 s5 S5 => (show PF C F2 D .nx ρb from hp) F5 σ5 H5 (s3.trans s5) S5
      | rt v => exact fun F5 σ5 H5 x s5 S5 r => (show PF C F2 D (.rt v) ρb from hp) F5 σ5 H5 x (s3.trans s5) S5 r

/-! ### lists changed -/
theorem chk_of {i : Nat} {F : Hp} {ρ : Rho} {k : Unit → Rho → Prop} (h : Pst W F σ (chk i ρ) k) : (∃ ds, ρ[i]? = some (some (.ow ds))) ∧ k () ρ := by
  unfold chk at h
  cases e : ρ[i]? with
  | none => rw [e] at h; exact False.elim h
  | some o =>
    cases o with
    | none => rw [e] at h; exact False.elim h
    | some v =>
      cases v with
      | fz d => rw [e] at h; exact False.elim h
      | od kvs => rw [e] at h; exact False.elim h
      | ow ds => rw [e] at h; exact ⟨⟨ds, rfl⟩, h⟩
theorem chg_of {α : Type} {i : Nat} {F : Hp} {ρ : Rho} {f : List FK.D → Option (α × List FK.D)} {k : α → Rho → Prop} (h : Pst W F σ (chg i f ρ) k) : ∃ ds a es, ρ[i]? = some (some (.ow ds)) ∧ f ds = some (a, es) ∧ k a (ρ.set i (some (.ow es))) := by
  unfold chg at h
  cases e : ρ[i]? with
  | none => rw [e] at h; exact False.elim h
  | some o =>
    cases o with
    | none => rw [e] at h; exact False.elim h
    | some v =>
      cases v with
      | fz d => rw [e] at h; exact False.elim h
      | od kvs => rw [e] at h; exact False.elim h
      | ow ds =>
        rw [e] at h
        cases e2 : f ds with
        | none => simp only [e2] at h; exact False.elim h
        | some p => simp only [e2] at h; exact ⟨ds, p.1, p.2, rfl, e2, h⟩
theorem app_go (wm : WM W) (hK : C.K = X.K) {i : Nat} (q : rdS C W (sApp i m) D σ H) : tDrop (tBM X.K "list" rAppend (tVar i) (tCons (rd C W m) tNil)) D σ H := by
  obtain ⟨F, ρ, S, q⟩ := q
  have q := Pst.bnd.mp q
  obtain ⟨⟨ds, e⟩, q⟩ := chk_of q
  obtain ⟨p, xs, h1, h2, h3, h4, h5⟩ := S.owL e
  refine ⟨.ref p, h1, .inl ⟨rfl, xs, .inl (.inl h3)⟩, F, ρ, S, (Pst.bnd.mp q).imp fun v ρ1 q F1 H1 x s1 S1 r => ?_⟩
  obtain ⟨F2, s2, S2, d2⟩ := S1.freeze r
  have q := Pst.bnd.mp q
  obtain ⟨ds', u, es, e1, e2, q⟩ := chg_of q
  obtain ⟨p', ys, g1, g2, g3, g4, g5⟩ := S2.owL e1
  rw [h1] at g1
  cases g1
  unfold appD at e2
  split at e2
  · rename_i hz
    cases e2
    have hl := dps_length g4
    have hz' : ds'.length < sizeLine := by rw [PySem.sizeLine_eq]; exact hz
    refine ⟨p, ys, x, rfl, rfl, g3, by omega, ?_⟩
    exact q F2 σ _ (s1.trans s2) (S2.change e1 h1 (dps_append g4 (.cons d2 .nil)) (by rw [List.length_append]; exact hz'))
  · cases e2
theorem ins_go (wm : WM W) (hK : C.K = X.K) {i : Nat} (q : rdS C W (sIns i m n) D σ H) : tDrop (tBM X.K "list" (fun x vs H Q => ∃ (l : Addr) (xs : List V) (i : Int) (y : V), x = .ref l ∧ vs = [.int i, y] ∧ H l = some (.lst xs) ∧ xs.length < sizeLine ∧ 0 ≤ i ∧ i < 2 ^ 63 ∧
    Q .non (upd H l (.lst (xs.take i.toNat ++ [y] ++ xs.drop i.toNat)))) (tVar i) (tCons (rd C W m) (tCons (rd C W n) tNil))) D σ H := by
  obtain ⟨F, ρ, S, q⟩ := q
  have q := Pst.bnd.mp q
  obtain ⟨⟨ds, e⟩, q⟩ := chk_of q
  obtain ⟨p, xs, h1, h2, h3, h4, h5⟩ := S.owL e
  refine ⟨.ref p, h1, .inl ⟨rfl, xs, .inl (.inl h3)⟩, F, ρ, S, (Pst.bnd.mp q).imp fun v ρ1 q F1 H1 x s1 S1 r => ?_⟩
  obtain ⟨F2, s2, S2, d2⟩ := S1.freeze r
  have q := Pst.bnd.mp (Pst.mono wm (s1.trans s2) q)
  refine ⟨F2, ρ1, S2, q.imp fun w ρ2 q F3 H3 y s3 S3 r3 => ?_⟩
  obtain ⟨F4, s4, S4, d4⟩ := S3.freeze r3
  have q := Pst.bnd.mp q
  obtain ⟨ds', u, es, e1, e2, q⟩ := chg_of q
  obtain ⟨p', ys, g1, g2, g3, g4, g5⟩ := S4.owL e1
  rw [h1] at g1
  cases g1
  unfold insD at e2
  split at e2
  · rename_i j hv
    split at e2
    · rename_i hz
      cases e2
      rw [hv] at d2
      cases d2
      have hl := dps_length g4
      have hz' : ds'.length < sizeLine := by rw [PySem.sizeLine_eq]; exact hz.2.2
      refine ⟨p, ys, j, y, rfl, rfl, g3, by omega, hz.1, by omega, ?_⟩
      have hd : DqAll C.K F4 (ys.take j.toNat ++ [y] ++ ys.drop j.toNat) (ds'.take j.toNat ++ w.data :: ds'.drop j.toNat) := by
        rw [List.append_assoc]
        exact dps_append (dps_take _ g4) (.cons d4 (dps_drop _ g4))
      exact q F4 σ _ (((s1.trans s2).trans s3).trans s4) (S4.change e1 h1 hd (by rw [List.length_append, List.length_take, List.length_cons, List.length_drop]; omega))
    · cases e2
  · cases e2
theorem putAt_of {d k : FK.D} {ds es : List FK.D} {u : Unit} (h : putAt d k ds = some (u, es)) : ∃ i j, k = .int i ∧ ixN ds.length i = some j ∧ es = ds.set j d := by
  unfold putAt at h
  split at h
  · obtain ⟨j, h1, h2⟩ := Option.map_eq_some_iff.mp h
    cases h2
    exact ⟨_, j, rfl, h1, rfl⟩
  · cases h
theorem item_go (wm : WM W) {i : Nat} (q : rdS C W (sItem i n m) D σ H) : tAsg (rd C W m) (gSub (tVar i) (rd C W n) rSetL) D σ H := by
  obtain ⟨F, ρ, S, q⟩ := q
  refine ⟨F, ρ, S, (Pst.bnd.mp q).imp fun v ρ1 q F1 H1 x s1 S1 r => ?_⟩
  obtain ⟨F2, s2, S2, d2⟩ := S1.freeze r
  have q := Pst.bnd.mp (Pst.mono wm (s1.trans s2) q)
  obtain ⟨⟨ds, e⟩, q⟩ := chk_of q
  obtain ⟨p, xs, h1, h2, h3, h4, h5⟩ := S2.owL e
  refine ⟨.ref p, h1, F2, ρ1, S2, (Pst.bnd.mp q).imp fun w ρ2 q F3 H3 y s3 S3 r3 => ?_⟩
  obtain ⟨F4, s4, S4, d4⟩ := S3.freeze r3
  have q := Pst.bnd.mp q
  obtain ⟨ds', u, es, e1, e2, q⟩ := chg_of q
  obtain ⟨p', ys, g1, g2, g3, g4, g5⟩ := S4.owL e1
  rw [h1] at g1
  cases g1
  obtain ⟨k, j, hk, hj, rfl⟩ := putAt_of e2
  rw [hk] at d4
  cases d4
  have hz : ds'.length ≤ sizeLine := by rw [← dps_length g4]; exact S4.sz _ _ g3
  refine ⟨p, ys, k, j, rfl, rfl, g3, by rw [dps_length g4]; exact hj, ?_⟩
  exact q F4 σ _ (((s1.trans s2).trans s3).trans s4) (S4.change e1 h1 (dps_set j g4 (dp_mono (s3.trans s4) _ _ d2)) (by rw [List.length_set]; exact hz))
theorem aug_go (wm : WM W) {op : Int → Int → Int} {i : Nat} (hb : ∀ q ∈ C.Bs, q.1 ≠ i) (q : rdS C W (sAug i op m) D σ H) : tAug i (rd C W m) (ipI op) D σ H := by
  obtain ⟨F, ρ, S, q⟩ := q
  unfold sAug at q
  split at q
  · rename_i a e
    obtain ⟨x, h1, h2⟩ := S.fz _ _ e
    cases h2
    refine ⟨.int a, h1, F, ρ, S, (Pst.bnd.mp q).imp fun v ρ1 q F1 H1 x s1 S1 r => ?_⟩
    obtain ⟨F2, s2, S2, d2⟩ := S1.freeze r
    obtain ⟨d, hd⟩ : ∃ d, v.data = d := ⟨_, rfl⟩
    rw [hd] at q d2
    cases d with
    | int b =>
      cases d2
      have q := Pst.bnd.mp q
      obtain ⟨_, q⟩ := setS_ok (α := Unit) q
      exact ⟨a, b, rfl, rfl, q F2 _ H1 (s1.trans s2) (S2.put (v := .fz (.int (op a b))) (.int _) hb)⟩
    | none => exact False.elim q
    | bool _ => exact False.elim q
    | str _ => exact False.elim q
    | list _ => exact False.elim q
    | tuple _ => exact False.elim q
    | dict _ => exact False.elim q
  · exact False.elim q
/-- the item of a list, for x[k] op= e -/
def rGetL (K : PySem.W.Frag) : V → V → Hp → VK → Prop := fun o i H Q => ∃ p xs k z, o = .ref p ∧ i = .int k ∧ SqL K H p xs ∧ atI xs k = some z ∧ Q z H
theorem get_listL : PGet X (rGetL X.K) := by
  intro pins s σ H o i ov iv Q I ro ri h
  obtain ⟨p, xs, k, z, rfl, rfl, hq, he, q⟩ := h
  cases ro
  obtain ⟨t, rfl⟩ := ri
  obtain ⟨its, r, pl, hz⟩ := I.list hq
  obtain ⟨j, h1, h2, h3, h4, h5⟩ := atI_get he
  obtain ⟨w, ew, rw'⟩ := r.get h2
  have hl : xs.length = its.length := r.length
  have hn := line63
  have fin : EP X pins σ Q w s := ⟨z, H, I, rw', q⟩
  by_cases h0 : 0 ≤ k
  · have hj : k.toNat = j := by
      rw [seqIndex_of h0 h5] at h1
      exact Option.some.inj h1
    exact wpAny_getItem_list pl.isList h0 (by omega) (by rw [hj]; simpa using ew) fin
  · have hj : (k + (its.toArray.size : Int)).toNat = j := by
      rw [seqIndex_neg (by omega) h4] at h1
      rw [List.size_toArray, ← hl]
      exact Option.some.inj h1
    exact wpAny_getItem_list_neg pl.isList (by omega) (by rw [List.size_toArray] <;> omega) (by omega) (by rw [hj]; simpa using ew) fin
theorem augI_go (wm : WM W) (hK : C.K = X.K) {op : Int → Int → Int} {i : Nat} (q : rdS C W (sAugI i op n m) D σ H) : tAugS (tVar i) (rd C W n) (rd C W m) (rGetL X.K) (ipI op) rSetL D σ H := by
  obtain ⟨F, ρ, S, q⟩ := q
  have q := Pst.bnd.mp q
  obtain ⟨⟨ds, e⟩, q⟩ := chk_of q
  obtain ⟨p, xs, h1, h2, h3, h4, h5⟩ := S.owL e
  refine ⟨.ref p, h1, F, ρ, S, (Pst.bnd.mp q).imp fun w ρ1 q F1 H1 y s1 S1 r => ?_⟩
  obtain ⟨F2, s2, S2, d2⟩ := S1.freeze r
  have q := Pst.mono wm (s1.trans s2) q
  split at q
  · rename_i ds1 e1
    split at q
    · rename_i k hk
      split at q
      · rename_i a ha
        obtain ⟨p', ys, g1, g2, g3, g4, g5⟩ := S2.owL e1
        rw [h1] at g1
        cases g1
        rw [hk] at d2
        cases d2
        obtain ⟨z, k1, k2⟩ := atI_of g4 (by unfold getAt at ha; exact ha)
        cases k2
        refine ⟨p, ys, k, _, rfl, rfl, .inl (.inl g3), k1, F2, ρ1, S2, (Pst.bnd.mp q).imp fun v ρ2 q F3 H3 x s3 S3 r3 => ?_⟩
        obtain ⟨F4, s4, S4, d4⟩ := S3.freeze r3
        obtain ⟨d, hd⟩ : ∃ d, v.data = d := ⟨_, rfl⟩
        rw [hd] at q d4
        cases d with
        | int b =>
          cases d4
          have q := Pst.bnd.mp q
          obtain ⟨ds', u, es, e3, e2, q⟩ := chg_of q
          obtain ⟨p', zs, m1, m2, m3, m4, m5⟩ := S4.owL e3
          rw [h1] at m1
          cases m1
          obtain ⟨k', j, hk', hj, rfl⟩ := putAt_of e2
          cases hk'
          have hz : ds'.length ≤ sizeLine := by rw [← dps_length m4]; exact S4.sz _ _ m3
          refine ⟨a, b, rfl, rfl, p, zs, k, j, rfl, rfl, m3, by rw [dps_length m4]; exact hj, ?_⟩
          exact q F4 σ _ (((s1.trans s2).trans s3).trans s4) (S4.change e3 h1 (dps_set j m4 (.int _)) (by rw [List.length_set]; exact hz))
        | none => exact False.elim q
        | bool _ => exact False.elim q
        | str _ => exact False.elim q
        | list _ => exact False.elim q
        | tuple _ => exact False.elim q
        | dict _ => exact False.elim q
      · exact False.elim q
    · exact False.elim q
  · exact False.elim q
end
end FK

/-! FkE3: defs and their calls. -/
namespace FK
open PySem L2 PyProof.Rows

/-- a def's promise where no repr runs around it -/
structure FnG (P : Program) (w : World) (K : PySem.W.Frag) (mg : Str → Option Value) (base : Heap) (CX : CXT) (k : Nat) (f : Addr) (fd : FuncData) (ps : List Str) (sp : Sp) : Prop where
  len : ∀ vs H Q E, sp vs H Q E → vs.length = ps.length
  run : ∀ (A : Around) (outer : List Env) (s : Shared) (H : Hp) (args : Args) (us : List Value) (vs : List V) (Q : VK) (E : XK), A.guards = some [] → Room k A → Env0 P w K mg base A outer s H → BindsTo s fd args (ps.zip us) → Vals vs us →
    sp vs H Q E → codeAny (model P w) A (.call (.ref f) args) (CR CX outer P w H s Q E) s
theorem FnG.up {P : Program} {w : World} {K : PySem.W.Frag} {mg : Str → Option Value} {base : Heap} {CX : CXT} {j k : Nat} {f : Addr} {fd : FuncData} {ps : List Str} {sp : Sp} (F : FnG P w K mg base CX j f fd ps sp) (h : j ≤ k) : FnG P w K mg base CX k f fd ps sp :=
  ⟨F.len, fun A outer s H args us vs Q E hg hr e0 hb r q => F.run A outer s H args us vs Q E hg (hr.mono h) e0 hb r q⟩

/-- what is handed in -/
def argsV : Option (List D) → List D → List Val
  | none, ds => ds.map .fz
  | some bs, ds => .ow bs :: ds.map .fz
def Pre (K : PySem.W.Frag) (F H : Hp) : Option (List D) → List D → List V → Option Addr → Prop
  | none, ds, vs, none => DqAll K F vs ds
  | some bs, ds, vs, some p => ∃ xs vs', vs = .ref p :: vs' ∧ F p = none ∧ H p = some (.lst xs) ∧ DqAll K F xs bs ∧ DqAll K F vs' ds
  | _, _, _, _ => False
def PostB (K : PySem.W.Frag) (F' H' : Hp) : Option (List D) → Option Addr → Prop
  | some bs, some p => ∃ xs, F' p = none ∧ H' p = some (.lst xs) ∧ DqAll K F' xs bs
  | none, none => True
  | _, _ => False
def RVxo (K : PySem.W.Frag) (F' H H' : Hp) (w : Own) (x : V) : Prop := ∃ p o, x = .ref p ∧ F' p = none ∧ H' p = some o ∧ OwnAt K F' p o w ∧ H p = none
def RVx (K : PySem.W.Frag) (F' H H' : Hp) (v : Val) (x : V) : Prop :=
  match v with
  | .fz d => Dq K F' x d
  | .ow ds => RVxo K F' H H' (.lst ds) x
  | .od kvs => RVxo K F' H H' (.dic kvs) x
theorem rvx_own {K : PySem.W.Frag} {F' H H' : Hp} {v : Val} {w : Own} {x : V} (h : v.own = some w) : RVx K F' H H' v x = RVxo K F' H H' w x := by
  cases v with
  | fz d => cases h
  | ow ds => cases h; rfl
  | od kvs => cases h; rfl
/-- what stays: all but the list handed in, and the tables; new things are new -/
structure Stays (T : List (Addr × Str)) (F H F' H' : Hp) (op : Option Addr) : Prop where
  sm : Same F F'
  sub : Same F' H'
  sz : HSz H'
  fr : ∀ a u, H a = some u → op ≠ some a → (∀ ps, u ≠ .tbl ps) → H' a = some u
  ht : ∀ a ps, H a = some (.tbl ps) → ∃ o, H' a = some o
  nw : ∀ a, F' a ≠ none → F a ≠ none ∨ H a = none
  tb : TabF T F' H'
  nt : ∀ a o, F' a = some o → ∀ ps, o ≠ .tbl ps
def spOf (T : List (Addr × Str)) (K : PySem.W.Frag) (fe : FnE) : Sp := fun vs H Q _ => vs.length = fe.np ∧ ∃ F ob ds op, ob.isSome = fe.br ∧ Same F H ∧ HSz H ∧ TabF T F H ∧ (∀ a o, F a = some o → ∀ ps, o ≠ .tbl ps) ∧ Pre K F H ob ds vs op ∧
  match fe.f (argsV ob ds) with
  | .ok v o => ∀ F' H' x, Stays T F H F' H' op → PostB K F' H' o op → RVx K F' H H' v x → Q x H'
  | _ => False

section
variable {K : PySem.W.Frag} {F H : Hp}
theorem start_get {N : List Str} {vs : List V} (h : vs.length ≤ N.length) (i : Nat) : (L2.start N vs)[i]? = if i < vs.length then vs[i]?.map some else if i < N.length then some none else none := by
  unfold L2.start
  by_cases hi : i < vs.length
  · rw [if_pos hi, List.getElem?_append_left (by simpa using hi), List.getElem?_map]
  · rw [if_neg hi, List.getElem?_append_right (by simpa using hi), List.getElem?_replicate, List.length_map]
    by_cases h2 : i < N.length
    · rw [if_pos h2, if_pos (by omega)]
    · rw [if_neg h2, if_neg (by omega)]
theorem rho_get {args : List Val} {n : Nat} (h : args.length ≤ n) (i : Nat) : (args.map some ++ List.replicate (n - args.length) (none : Option Val))[i]? = if i < args.length then args[i]?.map some else if i < n then some none else none := by
  by_cases hi : i < args.length
  · rw [if_pos hi, List.getElem?_append_left (by simpa using hi), List.getElem?_map]
  · rw [if_neg hi, List.getElem?_append_right (by simpa using hi), List.getElem?_replicate, List.length_map]
    by_cases h2 : i < n
    · rw [if_pos h2, if_pos (by omega)]
    · rw [if_neg h2, if_neg (by omega)]
/-- where a def begins -/
def ctOf (T : List (Addr × Str)) (K : PySem.W.Frag) (H F : Hp) (op : Option Addr) : Ct := { K := K, T := T, H0 := H, F0 := F, Bs := match op with | some p => [(0, p)] | none => [], Z := fun _ => none }
theorem sim_start {T : List (Addr × Str)} {N : List Str} {ob : Option (List FK.D)} {ds : List FK.D} {vs : List V} {op : Option Addr} (hp : Pre K F H ob ds vs op) (hs : Same F H) (hz : HSz H) (tb : TabF T F H) (nt : ∀ a o, F a = some o → ∀ ps, o ≠ .tbl ps) (hn : vs.length ≤ N.length) :
    Sim (ctOf T K H F op) F ((argsV ob ds).map some ++ List.replicate (N.length - (argsV ob ds).length) none) (L2.start N vs) H := by
  have hl : (argsV ob ds).length = vs.length := by
    cases ob with
    | none =>
      cases op with
      | none => simp [argsV, dps_length hp]
      | some p => exact hp.elim
    | some bs =>
      cases op with
      | none => exact hp.elim
      | some p =>
        obtain ⟨xs, vs', rfl, _, _, _, h⟩ := hp
        simp [argsV, dps_length h]
  have hn' : (argsV ob ds).length ≤ N.length := by omega
  have len : ((argsV ob ds).map some ++ List.replicate (N.length - (argsV ob ds).length) (none : Option Val)).length = N.length := by simp; omega
  have lenσ : (L2.start N vs).length = N.length := by unfold L2.start; simp; omega
  have val : ∀ (i : Nat) (v : Val), ((argsV ob ds).map some ++ List.replicate (N.length - (argsV ob ds).length) (none : Option Val))[i]? = some (some v) → i < vs.length ∧ (argsV ob ds)[i]? = some v := fun i v e => by
    rw [rho_get hn'] at e
    split at e
    · rename_i hi
      rw [hl] at hi
      refine ⟨hi, ?_⟩
      cases q : (argsV ob ds)[i]? with
      | none => rw [q] at e; cases e
      | some u => rw [q] at e; cases e; rfl
    · split at e <;> cases e
  have sval : ∀ (i : Nat) (x : V), vs[i]? = some x → (L2.start N vs)[i]? = some (some x) := fun i x e => by
    rw [start_get hn, if_pos (List.getElem?_eq_some_iff.mp e).1, e]
    rfl
  have own0 : ∀ (i : Nat) (v : Val) (w : Own), ((argsV ob ds).map some ++ List.replicate (N.length - (argsV ob ds).length) (none : Option Val))[i]? = some (some v) → v.own = some w → ∃ bs p, ob = some bs ∧ op = some p ∧ i = 0 ∧ v = .ow bs := fun i v w e hw => by
    obtain ⟨hi, e⟩ := val i _ e
    cases ob with
    | none =>
      have e' : (ds.map Val.fz)[i]? = some v := e
      rw [List.getElem?_map] at e'
      obtain ⟨d', h1, h2⟩ := Option.map_eq_some_iff.mp e'
      rw [← h2] at hw; cases hw
    | some bs =>
      cases op with
      | none => exact hp.elim
      | some p =>
        cases i with
        | zero =>
          have : v = .ow bs := by simpa [argsV] using e.symm
          exact ⟨bs, p, rfl, rfl, rfl, this⟩
        | succ i =>
          have e' : (ds.map Val.fz)[i]? = some v := by simpa [argsV] using e
          rw [List.getElem?_map] at e'
          obtain ⟨d', h1, h2⟩ := Option.map_eq_some_iff.mp e'
          rw [← h2] at hw; cases hw
  have bs0 : ∀ q ∈ (ctOf T K H F op).Bs, ∃ p bs xs vs', q = (0, p) ∧ op = some p ∧ ob = some bs ∧ vs = .ref p :: vs' ∧ F p = none ∧ H p = some (.lst xs) ∧ DqAll K F xs bs := fun q hq => by
    cases op with
    | none => cases hq
    | some p =>
      cases ob with
      | none => exact hp.elim
      | some bs =>
        obtain ⟨xs, vs', rfl, h1, h2, h3, _⟩ := hp
        exact ⟨p, bs, xs, vs', List.mem_singleton.mp hq, rfl, rfl, rfl, h1, h2, h3⟩
  refine ⟨by rw [len, lenσ], hs, hz, fun i d e => ?_, fun i v w e hw => ?_, fun i j v u w y p ne e1 k1 e2 k2 => ?_, fun q hq => ?_, fun q hq => ?_, fun a o e _ _ => e, fun a ps e => ⟨_, e⟩, Same.refl F, fun a e => .inl e, fun a o e => (by cases e), tb, nt⟩
  · obtain ⟨hi, e⟩ := val i _ e
    cases ob with
    | none =>
      cases op with
      | some p => exact hp.elim
      | none =>
        have e' : (ds.map Val.fz)[i]? = some (.fz d) := e
        rw [List.getElem?_map] at e'
        obtain ⟨d', h1, h2⟩ := Option.map_eq_some_iff.mp e'
        cases h2
        obtain ⟨x, h3, h4⟩ := dps_get hp h1
        exact ⟨x, sval i x h3, h4⟩
    | some bs =>
      cases op with
      | none => exact hp.elim
      | some p =>
        obtain ⟨xs, vs', rfl, _, _, _, h⟩ := hp
        cases i with
        | zero => simp [argsV] at e
        | succ i =>
          have e' : (ds.map Val.fz)[i]? = some (.fz d) := by simpa [argsV] using e
          rw [List.getElem?_map] at e'
          obtain ⟨d', h1, h2⟩ := Option.map_eq_some_iff.mp e'
          cases h2
          obtain ⟨x, h3, h4⟩ := dps_get h h1
          exact ⟨x, sval (i + 1) x (by simpa using h3), h4⟩
  · obtain ⟨bs, p, rfl, rfl, rfl, rfl⟩ := own0 i v w e hw
    cases hw
    obtain ⟨xs, vs', rfl, h1, h2, h3, _⟩ := hp
    exact ⟨p, _, sval 0 _ rfl, h1, h2, ⟨xs, rfl, h3⟩, .inl List.mem_cons_self⟩
  · obtain ⟨_, _, _, _, h1, _⟩ := own0 i v w e1 k1
    obtain ⟨_, _, _, _, h2, _⟩ := own0 j u y e2 k2
    exact absurd (h1.trans h2.symm) ne
  · obtain ⟨p, bs, xs, vs', rfl, rfl, rfl, rfl, _⟩ := bs0 q hq
    exact sval 0 _ rfl
  · obtain ⟨p, bs, xs, vs', rfl, rfl, rfl, rfl, _, h2, _⟩ := bs0 q hq
    exact ⟨_, h2, fun ps e => by cases e⟩
end

section
variable {P : Program} {w : World} {K : PySem.W.Frag} {mg : Str → Option Value} {base : Heap} {CX : CXT}
/-- a body's end is the def's promise -/
theorem body_go {T : List (Addr × Str)} {N : List Str} {fe : FnE} {m : MS} {vs : List V} {H : Hp} {Q : VK} {E : XK} (hf : fe.f = fnOf N.length m) (hn : vs.length ≤ N.length) (h : spOf T K fe vs H Q E) : ∃ F op, (fe.br = false → op = none) ∧ rdS (ctOf T K H F op) WF m { nx := fun _ H' => Q .non H', rt := Q } (L2.start N vs) H := by
  obtain ⟨hl, F, ob, ds, op, hb, hs, hz, tb, nt, hp, q⟩ := h
  refine ⟨F, op, fun e => ?_, F, _, sim_start hp hs hz tb nt hn, ?_⟩
  · rw [e] at hb
    cases ob with
    | none =>
      cases op with
      | none => rfl
      | some p => exact hp.elim
    | some bs => cases hb
  rw [hf] at q
  unfold fnOf at q
  cases e : m ((argsV ob ds).map some ++ List.replicate (N.length - (argsV ob ds).length) none) with
  | bad => rw [e] at q; exact False.elim q
  | exc c es ρ =>
    rw [e] at q
    cases e2 : out0 (argsV ob ds) ρ with
    | none => simp only [e2] at q
    | some o => simp only [e2] at q
  | ok f ρ =>
    rw [e] at q
    cases e2 : out0 (argsV ob ds) ρ with
    | none => simp only [e2] at q
    | some o =>
      simp only [e2] at q
      -- the list handed in, at the end
      have outs : ∀ {F' : Hp} {σ' : L2.St} {H' : Hp}, Sim (ctOf T K H F op) F' ρ σ' H' → PostB K F' H' o op ∧ ∀ p, op = some p → F' p = none := fun {F' σ' H'} S => by
        cases ob with
        | none =>
          cases op with
          | some p => exact hp.elim
          | none =>
            have : o = none := by
              cases ds with
              | nil => simp [argsV, out0] at e2; exact e2.symm
              | cons d ds => simp [argsV, out0] at e2; exact e2.symm
            subst this
            exact ⟨trivial, fun p h => nomatch h⟩
        | some bs =>
          cases op with
          | none => exact hp.elim
          | some p =>
            cases ρ with
            | nil => simp [argsV, out0] at e2
            | cons r ρ =>
              cases r with
              | none => simp [argsV, out0] at e2
              | some v =>
                cases v with
                | fz d => simp [argsV, out0] at e2
                | od kvs => simp [argsV, out0] at e2
                | ow es =>
                  have : o = some es := by simpa [argsV, out0] using e2.symm
                  subst this
                  obtain ⟨p', xs, h1, h2, h3, h4, _⟩ := S.owL (i := 0) (ds := es) rfl
                  have hb := S.brs (0, p) List.mem_cons_self
                  have : p' = p := by
                    have := h1.symm.trans hb
                    cases this
                    rfl
                  subst this
                  exact ⟨⟨xs, h2, h3, h4⟩, fun q hq => by cases hq; exact h2⟩
      have fin : ∀ {F' : Hp} {σ' : L2.St} {H' : Hp} {v : Val} {x : V}, (∀ F' H' x, Stays T F H F' H' op → PostB K F' H' o op → RVx K F' H H' v x → Q x H') →
          Same F F' → Sim (ctOf T K H F op) F' ρ σ' H' → RVx K F' H H' v x → Q x H' := fun {F' σ' H' v x} q s S r => by
        obtain ⟨o1, o2⟩ := outs S
        refine q F' H' x ⟨s, S.sub, S.sz, fun a u ha hne ht => S.ext a u ha (fun z hz => ?_) ht, S.ht, fun a ha => ?_, S.tb, S.nt⟩ o1 r
        · cases op with
          | none => cases hz
          | some p =>
            have : z = (0, p) := List.mem_singleton.mp hz
            subst this
            exact fun h => hne (by rw [← h])
        · rcases S.new a ha with h | h | ⟨z, hz, h⟩
          · exact .inl h
          · exact .inr h
          · cases op with
            | none => cases hz
            | some p =>
              have : z = (0, p) := List.mem_singleton.mp hz
              subst this
              exact absurd (o2 a (by rw [← h])) ha
      cases f with
      | nx => exact fun F' σ' H' s S => fin q s S .non
      | bk => exact False.elim q
      | ct => exact False.elim q
      | rt v =>
        refine fun F' σ' H' x s S r => fin q s S ?_
        rcases own_cases v with ⟨d, rfl⟩ | ⟨w, hw⟩
        · exact r
        · rw [rvr_own hw] at r
          rw [rvx_own hw]
          exact r

/-- THE RULE for a def, by its body -/
theorem fnG_of {T : List (Addr × Str)} {k : Nat} {x qual : Str} {st : Stmt} {f : Addr} {fd : FuncData} {N ps : List Str} {fe : FnE} {m : MS} (Fu : Fun K x qual st f fd) (S : FnScope N ps (defScope st)) (hf : fe.f = fnOf N.length m) (hnp : fe.np = ps.length)
    (hbody : ∀ (cdv : Value) (A : Around) (outer : List Env) (s : Shared) (H : Hp) (C : Ct), fd.code = cdv → A.guards = some [] → A.handled = none → Room k (A.deeper (envOfC qual (defScope st) s.heap.objs.size f cdv)) → C.K = K → C.T = T → (∀ q ∈ C.Bs, q.1 = 0 ∧ fe.br = true) →
      PSs (cxOf CX P w K mg base N qual (defScope st) f cdv A outer s H fun _ _ _ => False).nox (defBody st) (rdS C WF m)) : FnG P w K mg base CX (k + 1) f fd ps (spOf T K fe) := by
  obtain ⟨oc, od, kV, doc, pm, an, cdv, ct, osl, rfl, lk, hcd⟩ := Fu.ex
  have hlen : ∀ vs H Q E, spOf T K fe vs H Q E → vs.length = ps.length := fun vs H Q E h => h.1.trans hnp
  have hps : ps.length ≤ N.length := by
    have := congrArg List.length S.pre
    rw [List.length_take] at this
    omega
  refine ⟨hlen, fun A outer s H args us vs Q E hg hr e0 hb r hsp => ?_⟩
  have l0 := hlen _ _ _ _ hsp
  have old : ∀ b o, base.get? b = some o → s.heap.get? b = some o := fun b o e => (e0.bs b o e).1
  have KX : K.In s.heap := e0.mod.kin.keeps old
  have kinds : ∀ y ∈ ps.zip us, (defScope st).names.lookup y.1 = some .local ∨ ((defScope st).names.lookup y.1 = some .cell ∧ ((cellsFrom (s.heap.objs.size + 1) (defScope st).names []).lookup y.1).isSome = true) := by
    intro y hy
    have hm : y.1 ∈ ps := (List.of_mem_zip (show (y.1, y.2) ∈ ps.zip us from hy)).1
    exact (S.par y.1 hm).imp id fun q => ⟨q, PySem.W.cellsFrom_some _ _ _ (.inl q)⟩
  have crec := PySem.W.codeRec_of KX hcd
  refine codeAny_call_function hr.depth (KX f _ lk) rfl S.co S.gen rfl crec (hb _ _ _ _ (wpAny_newFunctionEnv_cells S.kind kinds fun env he s1 hx => ?_))
  subst he
  refine ⟨(e0.mod.nolimit.keeps old).keeps hx.toInCall.keep, codeAny_func ?_⟩
  obtain ⟨F, op, hop, hq⟩ := body_go (N := N) (m := m) hf (by omega) hsp
  have bd := (hbody cdv A outer s H (ctOf T K H F op) rfl hg hr.hd (hr.deeper _) rfl rfl fun q hq => by
    cases op with
    | none => cases hq
    | some p =>
      have e : q = (0, p) := List.mem_singleton.mp hq
      subst e
      refine ⟨rfl, ?_⟩
      cases hbr : fe.br with
      | true => rfl
      | false => cases hop hbr)
  have I := (inv_start (CX := CX) (E := fun _ _ _ => False) S hr.hd e0 l0 r hx).wish fun _ _ => False
  refine wpAny_mono (bd.run [] s1 (L2.start N vs) H _ I hq) (fun fl s2 h2 => ?_) fun _ _ z => z.elim
  have fin : ∀ {σ2 : L2.St} {H2 : Hp} {v : V} {u : Value}, Inv (cxOf CX P w K mg base N qual (defScope st) f cdv A outer s H fun _ _ _ => False).nox [] σ2 H2 s2 → RelV v u → Q v H2 → CE outer P w H s Q u s2 :=
    fun {σ2 H2 v u} J rv q => ⟨v, H2, J.os, J.bare, J.base, J.hok, rv, q⟩
  cases fl with
  | next =>
    obtain ⟨σ2, H2, J, q⟩ := h2
    exact fin (v := V.non) (u := Value.none) J rfl q
  | ret u =>
    obtain ⟨v, σ2, H2, J, rv, q⟩ := h2
    exact fin J rv q
  | brk =>
    obtain ⟨_, _, _, z⟩ := h2
    exact z.elim
  | cont =>
    obtain ⟨_, _, _, z⟩ := h2
    exact z.elim
end

/-! ### calls -/
section
variable {X : Cx} {C : Ct} {W : Wish} {e : Expr} {es : List Expr} {p pos : Pos} {CX : CXT} {k : Nat} {f : Addr} {fd : FuncData} {ps : List Str} {fe : FnE} {x : Str}
/-- a call of a def that lets nothing out -/
theorem call_go (F : FnG X.prog X.w X.K X.mg X.base CX k f fd ps (spOf C.T X.K fe)) (hgd : X.A.guards = some []) (hr : Room k X.A) (hb : Binds X.K fd ps []) (hCX : ∀ outer H s e s', CX outer H s (fun _ _ _ => False) e s' → False)
    {pins : List (Addr × Obj)} {σ : L2.St} {H : Hp} {s : Shared} {Q : VK} {us : List Value} {vs : List V} (I : Inv X pins σ H s) (r : Vals vs us) (h : spOf C.T X.K fe vs H Q (fun _ _ _ => False)) : wpAny (model X.prog X.w) X.A (call (.ref f) us) (EP X pins σ Q) X.xe s := by
  have hl : (us ++ ([] : List Value)).length = ps.length := by
    rw [List.append_nil]
    exact (Vals.length r).symm.trans (F.len _ _ _ _ h)
  have bd := hb s us I.kIn hl
  rw [List.append_nil] at bd
  refine wpAny_call (codeAny_mono (F.run X.A X.stack s H ⟨us, []⟩ us vs Q (fun _ _ _ => False) hgd hr I.env0 bd r h) fun res s2 h2 => ?_)
  cases res with
  | error ex => exact (hCX _ _ _ _ _ h2).elim
  | ok fl =>
    cases fl with
    | ret u => exact I.after h2
    | next => exact h2.elim
    | brk => exact h2.elim
    | cont => exact h2.elim
/-- the reading of a call -/
def tCallF (T : List (Addr × Str)) (fe : FnE) (K : PySem.W.Frag) (t : TA) : TE := fun σ H Q => t σ H fun vs H1 => spOf T K fe vs H1 Q fun _ _ _ => False
theorem pe_callF (F : FnG X.prog X.w X.K X.mg X.base CX k f fd ps (spOf C.T X.K fe)) (hgd : X.A.guards = some []) (hr : Room k X.A) (hg : Gl X x) (hm : X.mg x = some (.ref f)) (hk : PySem.W.keepIn X.K (.ref f) = true) (hb : Binds X.K fd ps [])
    (hCX : ∀ outer H s e s', CX outer H s (fun _ _ _ => False) e s' → False) {t : TA} (ha : PA X (e :: es) t) (hd : (x == ("__debug__" : Str)) = false) (h1 : starEach (e :: es) X.env = (false, eval e X.env) :: starEach es X.env) (h2 : (backTo pos (starEach es X.env)).any (·.1) = false) :
    PE X (.Call (.Name x p) (e :: es) [] pos) (tCallF C.T fe X.K t) := by
  refine ⟨fun pins s σ H Q I q => wpAny_Call_Name_kw (ld_glob I hg hm ?_ hd)⟩
  have run := ha.run pos pins s σ H _ I q
  refine PySem.W.callWith_K (h₀ := X.base) I.ok.mod.kin hk (thn run fun us s1 hv => ?_) h1 h2
  obtain ⟨vs, H1, I1, r, q1⟩ := hv
  exact ⟨I1.kIn, call_go F hgd hr hb hCX I1 r q1⟩
theorem pe_callF0 (F : FnG X.prog X.w X.K X.mg X.base CX k f fd ps (spOf C.T X.K fe)) (hgd : X.A.guards = some []) (hr : Room k X.A) (hg : Gl X x) (hm : X.mg x = some (.ref f)) (hk : PySem.W.keepIn X.K (.ref f) = true) (hb : Binds X.K fd ps [])
    (hCX : ∀ outer H s e s', CX outer H s (fun _ _ _ => False) e s' → False) (hd : (x == ("__debug__" : Str)) = false) : PE X (.Call (.Name x p) [] [] pos) (tCallF C.T fe X.K tNil) := by
  refine ⟨fun pins s σ H Q I q => wpAny_Call_Name_kw (ld_glob I hg hm ?_ hd)⟩
  exact PySem.W.callWith_K0 I.kIn hk (call_go (us := []) F hgd hr hb hCX I .nil q)
/-- what a callee leaves, for the caller -/
theorem Stays.sim {F F' H H' : Hp} {ρ : Rho} {σ : L2.St} (S : Sim C F ρ σ H) (st : Stays C.T F H F' H' none) : Sim C F' ρ σ H' := by
  have fr' : ∀ a u, H a = some u → (∀ ps, u ≠ .tbl ps) → H' a = some u := fun a u h hn => st.fr a u h (fun z => nomatch z) hn
  have keep : ∀ a, F a = none → H a ≠ none → F' a = none := fun a h1 h2 => by
    cases q : F' a with
    | none => rfl
    | some u =>
      rcases st.nw a (by rw [q]; simp) with z | z
      · exact absurd h1 z
      · exact absurd z h2
  exact ⟨S.len, st.sub, st.sz, fun i d h => by
      obtain ⟨x, k1, k2⟩ := S.fz i d h
      exact ⟨x, k1, dp_mono st.sm _ _ k2⟩, fun i v w h hw => by
      obtain ⟨p, zs, k1, k2, k3, k4, k5⟩ := S.ow i v w h hw
      exact ⟨p, zs, k1, keep p k2 (by rw [k3]; simp), fr' _ _ k3 k4.ntbl, k4.mono st.sm, k5⟩, S.dist, S.brs, fun q hq => (by
      obtain ⟨u, e1, e2⟩ := S.bt q hq
      exact ⟨u, fr' _ _ e1 e2, e2⟩), fun a u h hb ht => fr' _ _ (S.ext a u h hb ht) ht, fun a ps h => (by
      obtain ⟨u, e1⟩ := S.ht a ps h
      by_cases ht : ∃ ps, u = .tbl ps
      · obtain ⟨ps', rfl⟩ := ht
        exact st.ht a ps' e1
      · exact ⟨u, fr' _ _ e1 fun ps e => ht ⟨ps, e⟩⟩), S.f0.trans st.sm, fun a h => (by
      rcases st.nw a h with z | z
      · exact S.new a z
      · exact .inr (.inl (S.free0 z))), fun a u h => by
      obtain ⟨k1, k2, k3, k4⟩ := S.zp a u h
      exact ⟨fr' _ _ k1 k3, keep a k2 (by rw [k1]; simp), k3, k4⟩, st.tb, st.nt⟩
theorem callF_go (wm : WM W) (hK : C.K = X.K) (hbr : fe.br = false) {as : List (Bool × M Val)} {σ : L2.St} {H : Hp} {Q : VK} (q : rd C W (mCall fe as) σ H Q) : tCallF C.T fe X.K (tItems C W as) σ H Q := by
  obtain ⟨F, ρ, S, q⟩ := q
  refine items_go wm as S q fun F1 H1 xs ds ρ1 s1 S1 hd h1 => ?_
  split at h1
  · rename_i hlen
    refine ⟨by rw [dps_length hd, hlen], F1, none, ds, none, hbr.symm, S1.sub, S1.sz, S1.tb, S1.nt, by rw [← hK]; exact hd, ?_⟩
    show match fe.f (ds.map Val.fz) with | .ok v o => _ | _ => _
    cases e2 : fe.f (ds.map Val.fz) with
    | bad => rw [e2] at h1; exact h1
    | exc c es o => rw [e2] at h1; exact False.elim h1
    | ok v o =>
      rw [e2] at h1
      intro F' H' y st pb rv
      have S2 : Sim C F' ρ1 σ H' := st.sim S1
      refine h1 F' H' y (s1.trans st.sm) S2 ?_
      rcases own_cases v with ⟨d, rfl⟩ | ⟨w, hw⟩
      · show Dq C.K F' y d
        rw [hK]
        exact rv
      · rw [rvx_own hw] at rv
        rw [rv_own hw]
        obtain ⟨p, zs, rfl, k1, k2, k3, k4⟩ := rv
        exact ⟨p, zs, rfl, k1, k2, by rw [hK]; exact k3, S1.free0 k4, S1.freeZ k4, S1.slotOwn k4⟩
  · exact False.elim h1
theorem fe_call (wm : WM W) (hK : C.K = X.K) (hbr : fe.br = false) (F : FnG X.prog X.w X.K X.mg X.base CX k f fd ps (spOf C.T X.K fe)) (hgd : X.A.guards = some []) (hr : Room k X.A) (hg : Gl X x) (hm : X.mg x = some (.ref f)) (hk : PySem.W.keepIn X.K (.ref f) = true) (hb : Binds X.K fd ps [])
    (hCX : ∀ outer H s e s', CX outer H s (fun _ _ _ => False) e s' → False) {as : List (Bool × M Val)} (ha : PA X (e :: es) (tItems C W as)) (hd : (x == ("__debug__" : Str)) = false) (h1 : starEach (e :: es) X.env = (false, eval e X.env) :: starEach es X.env) (h2 : (backTo pos (starEach es X.env)).any (·.1) = false) :
    PE X (.Call (.Name x p) (e :: es) [] pos) (rd C W (mCall fe as)) := PE.imp (pe_callF F hgd hr hg hm hk hb hCX ha hd h1 h2) fun σ H Q q => callF_go wm hK hbr q
theorem fe_call0 (wm : WM W) (hK : C.K = X.K) (hbr : fe.br = false) (F : FnG X.prog X.w X.K X.mg X.base CX k f fd ps (spOf C.T X.K fe)) (hgd : X.A.guards = some []) (hr : Room k X.A) (hg : Gl X x) (hm : X.mg x = some (.ref f)) (hk : PySem.W.keepIn X.K (.ref f) = true) (hb : Binds X.K fd ps [])
    (hCX : ∀ outer H s e s', CX outer H s (fun _ _ _ => False) e s' → False) (hd : (x == ("__debug__" : Str)) = false) :
    PE X (.Call (.Name x p) [] [] pos) (rd C W (mCall fe [])) := PE.imp (pe_callF0 F hgd hr hg hm hk hb hCX hd) fun σ H Q q => callF_go wm hK hbr q
/-- a list handed in to be changed -/
theorem callR_go (wm : WM W) (hK : C.K = X.K) (hbr : fe.br = true) {i : Nat} {as : List (Bool × M Val)} {σ : L2.St} {H : Hp} {Q : VK} (q : rd C W (mCallR fe i as) σ H Q) : tCallF C.T fe X.K (tCons (tVar i) (tItems C W as)) σ H Q := by
  obtain ⟨F, ρ, S, q⟩ := q
  have q := Pst.bnd.mp q
  obtain ⟨⟨bs0, e0⟩, q⟩ := chk_of q
  obtain ⟨p0, xs0, a1, a2, a3, a4, a5⟩ := S.owL e0
  refine ⟨.ref p0, a1, ?_⟩
  refine items_go wm as S q fun F1 H1 xs ds ρ1 s1 S1 hd h1 => ?_
  split at h1
  case isFalse => exact False.elim h1
  rename_i hlen
  split at h1
  case h_2 => exact False.elim h1
  rename_i bs e1
  obtain ⟨p, ys, g1, g2, g3, g4, g5⟩ := S1.owL e1
  rw [a1] at g1
  cases g1
  refine ⟨by rw [List.length_cons, dps_length hd, hlen], F1, some bs, ds, some p0, hbr.symm, S1.sub, S1.sz, S1.tb, S1.nt, ⟨ys, xs, rfl, g2, g3, by rw [← hK]; exact g4, by rw [← hK]; exact hd⟩, ?_⟩
  show match fe.f (Val.ow bs :: ds.map Val.fz) with | .ok v o => _ | _ => _
  cases e2 : fe.f (Val.ow bs :: ds.map Val.fz) with
  | bad => rw [e2] at h1; exact h1
  | exc c es o => rw [e2] at h1; exact False.elim h1
  | ok v o =>
    rw [e2] at h1
    cases o with
    | none => exact False.elim h1
    | some bs' =>
    intro F' H' y st pb rv
    obtain ⟨zs, b1, b2, b3⟩ := pb
    rw [← hK] at b3
    have fr' : ∀ a u, H1 a = some u → (∀ ps, u ≠ .tbl ps) → a ≠ p0 → H' a = some u := fun a u h hn ne => st.fr a u h (fun z => ne (by cases z; rfl)) hn
    have keep : ∀ a, F1 a = none → H1 a ≠ none → F' a = none := fun a h1 h2 => by
      cases q : F' a with
      | none => rfl
      | some u =>
        rcases st.nw a (by rw [q]; simp) with z | z
        · exact absurd h1 z
        · exact absurd z h2
    have hi : i < ρ1.length := (List.getElem?_eq_some_iff.mp e1).1
    have back : ∀ {j : Nat} {v : Val}, i ≠ j → (ρ1.set i (some (.ow bs')))[j]? = some (some v) → ρ1[j]? = some (some v) := fun {j v} ij e' => by
      rw [List.getElem?_set_ne ij] at e'; exact e'
    have at_ : ∀ {u : Val}, (ρ1.set i (some (.ow bs')))[i]? = some (some u) → u = .ow bs' := fun {u} e => by
      rw [List.getElem?_set_self hi] at e; cases e; rfl
    have isow : ∀ {j : Nat} {u : Val} {z : Own}, (ρ1.set i (some (.ow bs')))[j]? = some (some u) → u.own = some z → ∃ u2 z2, ρ1[j]? = some (some u2) ∧ u2.own = some z2 := fun {j u z} e' hz => by
      by_cases ij : i = j
      · subst ij; exact ⟨_, .lst bs, e1, rfl⟩
      · exact ⟨u, z, back ij e', hz⟩
    have S2 : Sim C F' (ρ1.set i (some (.ow bs'))) σ H' := ⟨by rw [List.length_set]; exact S1.len, st.sub, st.sz, fun j d h => by
        by_cases ij : i = j
        · subst ij
          have := at_ h
          cases this
        · obtain ⟨x, k1, k2⟩ := S1.fz j d (back ij h)
          exact ⟨x, k1, dp_mono st.sm _ _ k2⟩, fun j v w h hw => by
        by_cases ij : i = j
        · subst ij
          have := at_ h
          subst this
          cases hw
          exact ⟨p0, _, a1, b1, b2, ⟨zs, rfl, b3⟩, g5⟩
        · obtain ⟨q, ws, k1, k2, k3, k4, k5⟩ := S1.ow j v w (back ij h) hw
          have ne : q ≠ p0 := fun z => S1.dist i j _ v (.lst bs) w p0 ij e1 rfl (back ij h) hw a1 (by rw [k1, z])
          exact ⟨q, ws, k1, keep q k2 (by rw [k3]; simp), fr' _ _ k3 k4.ntbl ne, k4.mono st.sm, k5⟩, fun j l v u w y q ne f1 k1 f2 k2 => by
        obtain ⟨gs1, y1, f1, k1⟩ := isow f1 k1
        obtain ⟨gs2, y2, f2, k2⟩ := isow f2 k2
        exact S1.dist j l gs1 gs2 y1 y2 q ne f1 k1 f2 k2, S1.brs, fun q hq => (by
        by_cases z : q.2 = p0
        · exact ⟨_, by rw [z]; exact b2, fun ps e => by cases e⟩
        · obtain ⟨u, e1, e2⟩ := S1.bt q hq
          exact ⟨u, fr' _ _ e1 e2 z, e2⟩), fun a u h hb ht => (by
        have ne : a ≠ p0 := fun z => by
          rcases g5 with k | k
          · exact hb _ k z.symm
          · rw [z, k] at h; cases h
        exact fr' _ _ (S1.ext a u h hb ht) ht ne), fun a ps h => (by
        by_cases z : a = p0
        · exact ⟨_, by rw [z]; exact b2⟩
        · obtain ⟨u, e1⟩ := S1.ht a ps h
          by_cases ht : ∃ ps, u = .tbl ps
          · obtain ⟨ps', rfl⟩ := ht
            exact st.ht a ps' e1
          · exact ⟨u, fr' _ _ e1 (fun ps e => ht ⟨ps, e⟩) z⟩), S1.f0.trans st.sm, fun a h => (by
        rcases st.nw a h with z | z
        · exact S1.new a z
        · exact .inr (.inl (S1.free0 z))), fun a u h => (by
        obtain ⟨k1, k2, k3, k4⟩ := S1.zp a u h
        have ne : a ≠ p0 := fun z => k4 i _ (.lst bs) e1 rfl (by rw [z]; exact a1)
        refine ⟨fr' _ _ k1 k3 ne, keep a k2 (by rw [k1]; simp), k3, fun j v w f hw => ?_⟩
        obtain ⟨gs, y, f, k⟩ := isow f hw
        exact k4 j gs y f k), st.tb, st.nt⟩
    refine h1 F' H' y (s1.trans st.sm) S2 ?_
    rcases own_cases v with ⟨d, rfl⟩ | ⟨w, hw⟩
    · show Dq C.K F' y d
      rw [hK]
      exact rv
    · rw [rvx_own hw] at rv
      rw [rv_own hw]
      obtain ⟨q, ws, rfl, k1, k2, k3, k4⟩ := rv
      refine ⟨q, ws, rfl, k1, k2, by rw [hK]; exact k3, S1.free0 k4, S1.freeZ k4, fun j v w h hw => ?_⟩
      obtain ⟨gs, y, h, k⟩ := isow h hw
      exact S1.slotOwn k4 j gs y h k
theorem fe_callR (wm : WM W) (hK : C.K = X.K) (hbr : fe.br = true) {i : Nat} (F : FnG X.prog X.w X.K X.mg X.base CX k f fd ps (spOf C.T X.K fe)) (hgd : X.A.guards = some []) (hr : Room k X.A) (hg : Gl X x) (hm : X.mg x = some (.ref f)) (hk : PySem.W.keepIn X.K (.ref f) = true) (hb : Binds X.K fd ps [])
    (hCX : ∀ outer H s e s', CX outer H s (fun _ _ _ => False) e s' → False) {as : List (Bool × M Val)} (he : PE X e (tVar i)) (ha : PA X es (tItems C W as)) (hd : (x == ("__debug__" : Str)) = false) (h1 : starEach (e :: es) X.env = (false, eval e X.env) :: starEach es X.env) (h2 : (backTo pos (starEach es X.env)).any (·.1) = false) :
    PE X (.Call (.Name x p) (e :: es) [] pos) (rd C W (mCallR fe i as)) := PE.imp (pe_callF F hgd hr hg hm hk hb hCX (pa_cons he ha h1) hd h1 h2) fun σ H Q q => callR_go wm hK hbr q
end
end FK

/-! FkS1: looked for, counted, added; isinstance; extend, pop: by the machine. -/
namespace FK
open PySem L2 PyProof.Rows

/-! ### x in s -/
section
variable {X : Cx} {K : PySem.W.Frag}
def rInP (K : PySem.W.Frag) (neg : Bool) : R2 := fun x y H Q => ∃ d ds, Dp K H x d ∧ (Dp K H y (.list ds) ∨ Dp K H y (.tuple ds)) ∧ PyData.plainAll ds = true ∧ d.plain = true ∧ min (PyData.depthAll ds) d.depth ≤ 60 ∧ Q (.bl (neg ^^ ds.any fun z => PyData.eqv z d)) H
theorem op_inP (hu : X.A.units + 65 < cLine) : OpR X (compareOp .In) (rInP X.K false) := by
  intro pins s σ H x y v u Q I rx ry h
  obtain ⟨d, ds, hd, hy, p1, p2, sm, q⟩ := h
  obtain ⟨as, r1⟩ := Dp.reads I d x v hd rx
  rw [Bool.false_xor] at q
  rcases hy with hy | hy
  · obtain ⟨bs, r2⟩ := Dp.reads I _ y u hy ry
    exact SeqAt.in_list_data r2 r1 p1 p2 (by omega) ⟨.bl _, H, I, rfl, q⟩
  · obtain ⟨bs, r2⟩ := Dp.reads I _ y u hy ry
    exact SeqAt.in_tuple_data r2 r1 p1 p2 (by omega) ⟨.bl _, H, I, rfl, q⟩
theorem op_notInP (hu : X.A.units + 65 < cLine) : OpR X (compareOp .NotIn) (rInP X.K true) := by
  intro pins s σ H x y v u Q I rx ry h
  obtain ⟨d, ds, hd, hy, p1, p2, sm, q⟩ := h
  obtain ⟨as, r1⟩ := Dp.reads I d x v hd rx
  rw [Bool.true_xor] at q
  rcases hy with hy | hy
  · obtain ⟨bs, r2⟩ := Dp.reads I _ y u hy ry
    exact SeqAt.notIn_list_data r2 r1 p1 p2 (by omega) ⟨.bl _, H, I, rfl, q⟩
  · obtain ⟨bs, r2⟩ := Dp.reads I _ y u hy ry
    exact SeqAt.notIn_tuple_data r2 r1 p1 p2 (by omega) ⟨.bl _, H, I, rfl, q⟩
end
theorem inOk_of {xs : List D} {d : D} (h : inOk xs d = true) : PyData.plainAll xs = true ∧ d.plain = true ∧ min (PyData.depthAll xs) d.depth ≤ 60 := by
  unfold inOk at h
  rw [Bool.and_eq_true, Bool.and_eq_true, decide_eq_true_iff] at h
  exact ⟨h.1.1, h.1.2, h.2⟩
section
variable {C : Ct} {F H : Hp} {ρ : Rho} {σ : L2.St} {Q : VK} {K : PySem.W.Frag}
theorem view_dpP {d : D} {x : V} (s : Same F H) (w : View C F H x d) (p : d.plain = true) : Dp C.K H x d := dq_dp _ _ p (view_dp s w)
theorem os_in (hK : C.K = K) : OpS C (rInP K false) oIn := by
  subst hK
  intro F ρ σ H x y d e v Q S w1 w2 h q
  unfold oIn at h
  split at h
  · split at h
    · rename_i hc
      cases h
      obtain ⟨p1, p2, sm⟩ := inOk_of hc
      exact ⟨d, _, view_dpP S.sub w1 p2, .inl (view_dpP S.sub w2 p1), p1, p2, sm, by rw [Bool.false_xor]; exact kont_here S q (.bl _)⟩
    · cases h
  · split at h
    · rename_i hc
      cases h
      obtain ⟨p1, p2, sm⟩ := inOk_of hc
      exact ⟨d, _, view_dpP S.sub w1 p2, .inr (view_dpP S.sub w2 p1), p1, p2, sm, by rw [Bool.false_xor]; exact kont_here S q (.bl _)⟩
    · cases h
  · cases h
theorem os_notin (hK : C.K = K) : OpS C (rInP K true) oNotIn := by
  subst hK
  intro F ρ σ H x y d e v Q S w1 w2 h q
  unfold oNotIn at h
  split at h
  · split at h
    · rename_i hc
      cases h
      obtain ⟨p1, p2, sm⟩ := inOk_of hc
      exact ⟨d, _, view_dpP S.sub w1 p2, .inl (view_dpP S.sub w2 p1), p1, p2, sm, by rw [Bool.true_xor]; exact kont_here S q (.bl _)⟩
    · cases h
  · split at h
    · rename_i hc
      cases h
      obtain ⟨p1, p2, sm⟩ := inOk_of hc
      exact ⟨d, _, view_dpP S.sub w1 p2, .inr (view_dpP S.sub w2 p1), p1, p2, sm, by rw [Bool.true_xor]; exact kont_here S q (.bl _)⟩
    · cases h
  · cases h
end

/-! ### methods of lists and tuples alike -/
structure MethAt (X : Cx) (name : Str) (T id : String) (r : V → List V → Hp → VK → Prop) : Prop where
  pa : PlainAttrs T
  slot : Slot T name id
  ty : typeOf (.builtin id) = pure (.type "method_descriptor")
  m : MtR X id r
def tM2 (K : PySem.W.Frag) (r1 r2 : V → List V → Hp → VK → Prop) (to : TE) (t : TA) : TE := fun σ H Q => to σ H fun x H1 =>
  ((∃ p ys, x = .ref p ∧ SqL K H1 p ys) ∧ t σ H1 fun xs H2 => r1 x xs H2 Q) ∨ ((∃ p ys, x = .ref p ∧ TupAt H1 p ys) ∧ t σ H1 fun xs H2 => r2 x xs H2 Q)
section
variable {X : Cx} {o e : Expr} {es : List Expr} {to : TE} {t : TA} {name : Str} {apos cpos : Pos} {id1 id2 : String} {r1 r2 : V → List V → Hp → VK → Prop}
theorem pe_m2 (M1 : MethAt X name "list" id1 r1) (M2 : MethAt X name "tuple" id2 r2) (ho : PE X o to) (ha : PA X (e :: es) t)
    (hbase : attributeBase o name X.env (eval o X.env) = eval o X.env)
    (hfew : ((backTo cpos (starEach (e :: es) X.env)).all (fun x => !x.1) && (backToKw cpos (keywordEach [] X.env)).all (fun x => x.1.isSome)
      && decide ((e :: es).length + ([] : List Keyword).length + (if ([] : List Keyword).isEmpty then 0 else 1) < 30)) = true)
    (hline : (apos.endLine == cpos.line) = true) (hs : starEach (e :: es) X.env = (false, eval e X.env) :: starEach es X.env) (hplain : (backTo cpos (starEach es X.env)).any (·.1) = false) :
    PE X (.Call (.Attribute o name apos) (e :: es) [] cpos) (tM2 X.K r1 r2 to t) := by
  refine ⟨fun pins s σ H Q I h => ?_⟩
  refine wpAny_Call_method_late hbase hfew hline rfl (thn (ho.run pins s σ H _ I h) fun v s1 ⟨x, H1, I1, r1', hx⟩ => ?_)
  have fin : ∀ {T id : String} {r : V → List V → Hp → VK → Prop}, MethAt X name T id r → s1.TypeIs v T → (∀ a, v = .ref a → ∃ ob, s1.heap.get? a = some ob ∧ ob.dict = none) → t σ H1 (fun xs H2 => r x xs H2 Q) →
      MethodOn X.prog X.w X.A name cpos v (backTo cpos (starEach (e :: es) X.env)) (EP X pins σ Q) X.xe s1 := fun {T id r} M h1 h2 q1 => by
    refine ⟨T, id, M.pa, M.slot, M.ty, h1, h2, ?_⟩
    have hA := ha.run cpos pins s1 σ H1 _ I1 q1
    rw [hs] at hA ⊢
    refine Calls.callWith_builtin (by show (false || (backTo cpos (starEach es X.env)).any (·.1)) = false; rw [hplain] <;> rfl) (Calls.evalArgs_plain ?_)
    exact thn hA fun us s2 ⟨vs, H2, I2, r2, q2⟩ => M.m pins s2 σ H2 x vs v us Q I2 r1' r2 q2
  rcases hx with ⟨⟨p, ys, rfl, hq⟩, q1⟩ | ⟨⟨p, ys, rfl, ob, ho2, hd⟩, q1⟩
  · cases r1'
    obtain ⟨its, r, p1, _⟩ := I1.list hq
    obtain ⟨n, sl, e1⟩ := lst_obj p1
    exact fin M1 ⟨_, e1, rfl⟩ (fun a ha => by cases ha; exact ⟨_, e1, rfl⟩) q1
  · cases r1'
    obtain ⟨e1, _, its, r, o', e2, hc, _⟩ := (show ObjOk X.prog X.w H1 s1.heap p (.frz ob (.tup ys)) from I1.hok p _ ho2)
    have e1' : s1.heap.get? p = some ob := e1
    rw [e1'] at e2
    cases e2
    exact fin M2 ⟨_, e1', hc⟩ (fun a ha => by cases ha; exact ⟨_, e1', hd⟩) q1
def rCnt (K : PySem.W.Frag) (mk : List D → D) : V → List V → Hp → VK → Prop := fun x xs H Q => ∃ ds d y, xs = [y] ∧ Dp K H x (mk ds) ∧ Dp K H y d ∧ PyData.plainAll ds = true ∧ d.plain = true ∧ min (PyData.depthAll ds) d.depth ≤ 60 ∧ Q (.int (ds.countP fun z => PyData.eqv z d : Nat)) H
theorem isList_of {h : Heap} {a : Addr} {o : Obj} {vs : Array Value} {n : Nat} (h1 : h.get? a = some o) (h2 : o.cls = .type "list") (h3 : o.data = .seq vs n) : h.IsList a vs := ⟨o, h1, h2, n, h3⟩
theorem isTuple_of {h : Heap} {a : Addr} {o : Obj} {vs : Array Value} {n : Nat} (h1 : h.get? a = some o) (h2 : o.cls = .type "tuple") (h3 : o.data = .seq vs n) : h.IsTuple a vs := ⟨o, h1, h2, n, h3⟩
theorem mt_cntL (hu : X.A.units + 65 < cLine) : MtR X "list.count" (rCnt X.K .list) := by
  intro pins s σ H x xs v us Q I rx rs h
  obtain ⟨ds, d, y, rfl, hd, hy, p1, p2, sm, q⟩ := h
  obtain ⟨u, rfl, ru⟩ := vals1 rs
  obtain ⟨as, r1⟩ := Dp.reads I _ x v hd rx
  obtain ⟨bs, r2⟩ := Dp.reads I _ y u hy ru
  cases r1 with
  | list h1 h2 h3 h4 => exact SeqAt.count_list_data (isList_of h1 h2 h3) h4 r2 p1 p2 (by omega) ⟨.int _, H, I.tok _, ⟨_, rfl⟩, q⟩
theorem mt_cntT (hu : X.A.units + 65 < cLine) : MtR X "tuple.count" (rCnt X.K .tuple) := by
  intro pins s σ H x xs v us Q I rx rs h
  obtain ⟨ds, d, y, rfl, hd, hy, p1, p2, sm, q⟩ := h
  obtain ⟨u, rfl, ru⟩ := vals1 rs
  obtain ⟨as, r1⟩ := Dp.reads I _ x v hd rx
  obtain ⟨bs, r2⟩ := Dp.reads I _ y u hy ru
  cases r1 with
  | tuple h1 h2 h3 h4 => exact SeqAt.count_tuple_data (isTuple_of h1 h2 h3) h4 r2 p1 p2 (by omega) ⟨.int _, H, I.tok _, ⟨_, rfl⟩, q⟩
theorem ma_cntL (hu : X.A.units + 65 < cLine) : MethAt X "count" "list" "list.count" (rCnt X.K .list) := ⟨PySem.F.plainAttrs_list, PySem.F.slot_list_count, PySem.F.type_list_count, mt_cntL hu⟩
theorem ma_cntT (hu : X.A.units + 65 < cLine) : MethAt X "count" "tuple" "tuple.count" (rCnt X.K .tuple) := ⟨PySem.F.plainAttrs_tuple, PySem.F.slot_tuple_count, PySem.F.type_tuple_count, mt_cntT hu⟩
/-! ### index, of ints -/
def rIdx (K : PySem.W.Frag) (S : Hp → Addr → List V → Prop) : V → List V → Hp → VK → Prop := fun x xs H Q => ∃ (p : Addr) (is : List Int) (k : Int), x = .ref p ∧ xs = [.int k] ∧ S H p (is.map V.int) ∧ k ∈ is ∧ Q (.int (is.idxOf k : Nat)) H
theorem itemsEq_ints {A : Around} {s : Shared} {its : List Value} {is : List Int} {k : Int} {t : Tok} (h : Vals (is.map V.int) its) : PySem.SeqAt.ItemsEq A s its is (.int k t) k := by
  refine ⟨by rw [← Vals.length h, List.length_map], fun j h1 h2 => ?_⟩
  obtain ⟨u, hu, t', e⟩ := h.get (i := j) (x := .int is[j]) (by simp [h2])
  have e' : its[j] = .int is[j] t' := by
    rw [List.getElem?_eq_getElem h1] at hu
    rw [Option.some.inj hu, e]
  rw [e']
  exact (SeqAt.EqAt.int_int (A := A) (s := s) is[j] t' k t).cast (Bool.beq_eq_decide_eq _ _)
theorem mt_idxL : MtR X "list.index" (rIdx X.K (SqL X.K)) := by
  intro pins s σ H x xs v us Q I rx rs h
  obtain ⟨p, is, k, rfl, rfl, hq, hm, q⟩ := h
  cases rx
  obtain ⟨u, rfl, t, rfl⟩ := vals1 rs
  obtain ⟨its, r, pl, hz⟩ := I.list hq
  exact PySem.SeqAt.call_list_index pl.isList (itemsEq_ints r) (by rw [List.length_map] at hz; exact hz) hm ⟨.int _, H, I.tok _, ⟨_, rfl⟩, q⟩
theorem mt_idxT : MtR X "tuple.index" (rIdx X.K (SqT X.K)) := by
  intro pins s σ H x xs v us Q I rx rs h
  obtain ⟨p, is, k, rfl, rfl, hq, hm, q⟩ := h
  cases rx
  obtain ⟨u, rfl, t, rfl⟩ := vals1 rs
  obtain ⟨its, r, ⟨o, h1, h2, n, h3⟩, hz⟩ := I.tuple hq
  exact PySem.SeqAt.call_tuple_index (isTuple_of h1 h2 h3) (itemsEq_ints r) hm ⟨.int _, H, I.tok _, ⟨_, rfl⟩, q⟩
theorem ma_idxL : MethAt X "index" "list" "list.index" (rIdx X.K (SqL X.K)) := ⟨PySem.F.plainAttrs_list, PySem.F.slot_list_index, PySem.F.type_list_index, mt_idxL⟩
theorem ma_idxT : MethAt X "index" "tuple" "tuple.index" (rIdx X.K (SqT X.K)) := ⟨PySem.F.plainAttrs_tuple, PySem.F.slot_tuple_index, PySem.F.type_tuple_index, mt_idxT⟩
end
/-- a method of one operand that changes nothing: by values -/
def M1S (C : Ct) (r1 r2 : V → List V → Hp → VK → Prop) (f : D → D → Option Val) : Prop := ∀ (F : Hp) (ρ : Rho) (σ : L2.St) (H : Hp) (x y : V) (d e : D) (v : Val) (Q : VK),
  Sim C F ρ σ H → View C F H x d → View C F H y e → f d e = some v → Kont C F ρ σ v Q →
    (seqK d = 0 ∧ r1 x [y] H Q) ∨ (seqK d = 1 ∧ r2 x [y] H Q)
section
variable {C : Ct} {F H : Hp} {ρ : Rho} {σ : L2.St} {Q : VK} {K : PySem.W.Frag}
theorem view_seqL {ds : List D} {x : V} (S : Same F H) (w : View C F H x (.list ds)) : ∃ p xs, x = .ref p ∧ SqL C.K H p xs ∧ DqAll C.K F xs ds := view_lst S w
theorem m1_cnt (hK : C.K = K) : M1S C (rCnt K .list) (rCnt K .tuple) oCount := by
  subst hK
  intro F ρ σ H x y d e v Q S w1 w2 h q
  unfold oCount at h
  split at h
  · split at h
    · rename_i hc
      cases h
      obtain ⟨p1, p2, sm⟩ := inOk_of hc
      obtain ⟨p, xs, ex, h3, h4⟩ := view_lst S.sub w1
      exact .inl ⟨rfl, _, e, y, rfl, view_dpP S.sub w1 p1, view_dpP S.sub w2 p2, p1, p2, sm, kont_here S q (.int _)⟩
    · cases h
  · split at h
    · rename_i hc
      cases h
      obtain ⟨p1, p2, sm⟩ := inOk_of hc
      obtain ⟨p, xs, ex, h3, h4⟩ := view_tup w1
      exact .inr ⟨rfl, _, e, y, rfl, view_dpP S.sub w1 p1, view_dpP S.sub w2 p2, p1, p2, sm, kont_here S q (.int _)⟩
    · cases h
  · cases h
theorem intsOf_vals : ∀ {ds : List D} {is : List Int} {xs : List V}, DqAll C.K F xs ds → intsOf ds = some is → xs = is.map V.int
  | [], _, _, h, e => by cases h; cases e; rfl
  | .int i :: ds, _, _, h, e => by
    cases h with
    | cons q qs =>
      cases q
      obtain ⟨is, h1, h2⟩ := Option.map_eq_some_iff.mp (show (intsOf ds).map (i :: ·) = _ from e)
      subst h2
      rw [intsOf_vals qs h1]; rfl
  | .none :: _, _, _, _, e => nomatch e
  | .bool _ :: _, _, _, _, e => nomatch e
  | .str _ :: _, _, _, _, e => nomatch e
  | .list _ :: _, _, _, _, e => nomatch e
  | .tuple _ :: _, _, _, _, e => nomatch e
  | .dict _ :: _, _, _, _, e => nomatch e
theorem placeI_of {xs : List D} {i : Int} {v : Val} (h : placeI xs i = some v) : ∃ is, intsOf xs = some is ∧ i ∈ is ∧ v = .fz (.int (is.idxOf i : Nat)) := by
  unfold placeI at h
  obtain ⟨is, h1, h2⟩ := Option.bind_eq_some_iff.mp h
  split at h2
  · rename_i hm
    cases h2
    exact ⟨is, h1, hm, rfl⟩
  · cases h2
theorem m1_idx (hK : C.K = K) : M1S C (rIdx K (SqL K)) (rIdx K (SqT K)) oIndex := by
  subst hK
  intro F ρ σ H x y d e v Q S w1 w2 h q
  unfold oIndex at h
  split at h
  · obtain ⟨is, h1, hm, rfl⟩ := placeI_of h
    obtain ⟨p, xs, ex, h3, h4⟩ := view_lst S.sub w1
    have e2 := intsOf_vals h4 h1
    subst e2
    exact .inl ⟨rfl, p, is, _, ex, by rw [view_int w2], h3, hm, kont_here S q (.int _)⟩
  · obtain ⟨is, h1, hm, rfl⟩ := placeI_of h
    obtain ⟨p, xs, ex, h3, h4⟩ := view_tup w1
    have e2 := intsOf_vals h4 h1
    subst e2
    exact .inr ⟨rfl, p, is, _, ex, by rw [view_int w2], (h3.mono S.sub).sq, hm, kont_here S q (.int _)⟩
  · cases h
theorem m1_go {W : Wish} (wm : WM W) (hK : C.K = K) {r1 r2 : V → List V → Hp → VK → Prop} {f : D → D → Option Val} {a b : Opd} (hs : M1S C r1 r2 f) (h : rd C W (mMeth f a b) σ H Q) : tM2 K r1 r2 (rdO C W a) (tCons (rdO C W b) tNil) σ H Q := by
  obtain ⟨F, ρ, S, h⟩ := h
  refine opd_run wm S h fun F1 H1 x o ρ1 s1 S1 g1 h1 => ?_
  obtain ⟨d0, w0, h2⟩ := opd_get S1 g1 h1
  by_cases k2 : seqK d0 = 2
  · rw [if_pos k2] at h2; exact False.elim h2
  rw [if_neg k2] at h2
  have key : ∀ {R : V → Hp → Prop}, (∀ F2 H2 ρ2 y d e v, Same F1 F2 → Sim C F2 ρ2 σ H2 → View C F2 H2 x d → View C F2 H2 y e → seqK d0 = seqK d → f d e = some v → Kont C F2 ρ2 σ v Q → R y H2) → rdO C W b σ H1 R := fun {R} i => by
    refine opd_run wm S1 h2 fun F2 H2 y o2 ρ2 s2 S2 g2 h3 => ?_
    obtain ⟨d, w1, h4⟩ := opd_get S2 (g1.mono s2) h3
    obtain ⟨e, w2, h5⟩ := opd_get S2 g2 h4
    split at h5
    · rename_i hk
      obtain ⟨v, e1, q⟩ := h5.lift
      exact i F2 H2 ρ2 y d e v s2 S2 w1 w2 hk e1 fun F' H' z s S' r' => q F' H' z ((s1.trans s2).trans s) S' r'
    · exact False.elim h5
  cases d0 with
  | list ds =>
    obtain ⟨p, xs, rfl, h3, _⟩ := view_lst S1.sub w0
    refine .inl ⟨⟨p, xs, rfl, by rw [← hK]; exact h3⟩, key fun F2 H2 ρ2 y d e v s2 S2 w1 w2 hk e1 q => ?_⟩
    rcases hs F2 ρ2 σ H2 _ y d e v Q S2 w1 w2 e1 q with ⟨_, r⟩ | ⟨z, _⟩
    · exact r
    · rw [z] at hk; cases hk
  | tuple ds =>
    obtain ⟨p, xs, rfl, h3, _⟩ := view_tup w0
    refine .inr ⟨⟨p, xs, rfl, h3.mono S1.sub⟩, key fun F2 H2 ρ2 y d e v s2 S2 w1 w2 hk e1 q => ?_⟩
    rcases hs F2 ρ2 σ H2 _ y d e v Q S2 w1 w2 e1 q with ⟨z, _⟩ | ⟨_, r⟩
    · rw [z] at hk; cases hk
    · exact r
  | none => exact absurd rfl k2
  | bool _ => exact absurd rfl k2
  | int _ => exact absurd rfl k2
  | str _ => exact absurd rfl k2
  | dict _ => exact absurd rfl k2
end

/-! ### sum -/
section
variable {X : Cx}
def rSum2 (K : PySem.W.Frag) : List V → Hp → VK → Prop := fun vs H Q => ∃ (a : Addr) (ns : List Int), vs = [V.ref a] ∧ (SqL K H a (ns.map V.int) ∨ SqT K H a (ns.map V.int)) ∧ Q (.int ns.sum) H
theorem cr_sum2 (hc : X.calm = true) : CallR X (.builtin "sum") (rSum2 X.K) := by
  intro pins s σ H vs us Q I r h
  obtain ⟨a, ns, rfl, hs, q⟩ := h
  rcases hs with hs | hs
  · exact cr_sum hc pins s σ H _ us Q I r ⟨a, ns, rfl, hs, q⟩
  · obtain ⟨its, rv, ⟨o, h1, h2, n, h3⟩, _⟩ := I.tuple hs
    rw [Vals.ref1 r]
    have hi := rv.ints
    obtain ⟨xs, e⟩ := hi.allInts.items
    have hn : numsOf (intItems xs).toList = ns := by rw [← e]; exact hi.numsOf
    rw [nums_intItems] at hn
    have hT : s.heap.IsTuple a (intItems xs) := by rw [← e]; exact isTuple_of h1 h2 h3
    refine PySem.W.ktm_sumG (I.ok.hd hc) hT fun h' tk t' hk => ?_
    rw [preSum_eq, List.take_of_length_le (by simp), hn]
    exact ⟨.int _, H, I.kept hk, ⟨_, rfl⟩, q⟩
variable {C : Ct} {K : PySem.W.Frag}
theorem ca_sum (hK : C.K = K) : CaS C (rSum2 K) oSum := by
  subst hK
  intro F ρ σ H xs ds v Q S w h q
  unfold oSum at h
  split at h
  · obtain ⟨is, h1, h2⟩ := Option.map_eq_some_iff.mp h
    cases h2
    obtain ⟨x, rfl, wv⟩ := views1 w
    obtain ⟨p, ys, rfl, h3, h4⟩ := view_lst S.sub wv
    have e := intsOf_vals h4 h1
    subst e
    exact ⟨p, is, rfl, .inl h3, kont_here S q (.int _)⟩
  · obtain ⟨is, h1, h2⟩ := Option.map_eq_some_iff.mp h
    cases h2
    obtain ⟨x, rfl, wv⟩ := views1 w
    obtain ⟨p, ys, rfl, h3, h4⟩ := view_tup wv
    have e := intsOf_vals h4 h1
    subst e
    exact ⟨p, is, rfl, .inr (sqT_mono S.sub h3.sq), kont_here S q (.int _)⟩
  · cases h
end
end FK

/-! FkS2: sorted. -/
namespace FK
open PySem L2 PyProof.Rows PySem.W

/-! ### what is collected -/
section
variable {prog : Program} {w : World} {A : Around} {E : Value → Shared → Prop} {s : Shared}
/-- collect(l) gives vs, all stays -/
def Collects (prog : Program) (w : World) (A : Around) (s : Shared) (l : Addr) (vs : List Value) : Prop :=
  ∀ (Q : List Value → Shared → Prop) (E : Value → Shared → Prop), (∀ h' tk, (∀ b o, s.heap.get? b = some o → h'.get? b = some o) → Q vs { s with heap := h', toks := tk }) → wpAny (model prog w) A (collect (.ref l)) Q E s
theorem collects_list {l : Addr} {vs : List Value} (hl : s.heap.IsList l vs.toArray) (hz : vs.length ≤ sizeLine) : Collects prog w A s l vs := fun Q E h =>
  collect_list hl (h _ s.toks fun b o q => by
    have hlt := Heap.lt_size q
    rw [Heap.get?_update_ne _ _ _ _ (Nat.ne_of_lt hlt)]
    exact Heap.get?_push_of_some _ q) hz
theorem collects_tuple {l : Addr} {vs : List Value} (hl : s.heap.IsTuple l vs.toArray) (hz : vs.length ≤ sizeLine) : Collects prog w A s l vs := fun Q E h => by
  obtain ⟨o, ho, hc, n, hd⟩ := id hl
  unfold collect
  refine wpAny_bind (wpAny_runValue (codeAny_builtin entry_proto_collect' ?_))
  show wpAny _ _ (do again (.builtin "list.__iadd__" ⟨[← newList [], .ref l], []⟩)) _ _ s
  refine wpAny_bind (wpAny_newList (wpAny_pure ⟨Code.quiet_builtin _ (by decide +kernel), codeAny_builtin entry_list_iadd' ?_⟩))
  show wpAny _ _ (Builtin.List.listExtendWith (.ref s.heap.objs.size) (.ref l) (.ref s.heap.objs.size)) _ _ { s with heap := s.heap.push (seqObj "list" #[] 0) }
  unfold Builtin.List.listExtendWith
  have ho' : (s.heap.push (seqObj "list" #[] 0)).get? l = some o := Heap.get?_push_of_some _ ho
  refine wpAny_bind (wpAny_typeOf (T := "tuple") ⟨o, ho', hc⟩ ?_)
  have ht : (Value.type "tuple" == Value.type "tuple") = true := by rfl
  rw [if_pos (by rw [ht]; simp)]
  refine wpAny_bind (listItems_at ho' hd ?_)
  refine wpAny_bind (listItems_at (xs := #[]) (n := 0) (Heap.get?_push_size _ rfl) rfl ?_)
  rw [if_neg (by simp)]
  refine wpAny_bind (listUpdate_at (xs := #[]) (n := 0) (Heap.get?_push_size _ rfl) rfl ?_ (Nat.zero_le _) (by show (#[] ++ vs.toArray).size ≤ sizeLine + 1; simp only [Array.size_append, List.size_toArray, List.length_nil]; omega))
  refine wpAny_pure ?_
  show wpAny (model prog w) A (do
      let o ← load s.heap.objs.size
      match o.data with
      | .seq xs _ => pure xs.toList
      | _ => unsupported "internal:collect") Q E { s with heap := (s.heap.push (seqObj "list" #[] 0)).update s.heap.objs.size (Obj.mapSeq (· ++ vs.toArray)) }
  refine wpAny_bind (wpAny_load (get?_update_seq (Heap.get?_push_size _ rfl) _) ?_)
  show wpAny _ _ (pure ((#[] : Array Value) ++ vs.toArray).toList) Q E _
  rw [show ((#[] : Array Value) ++ vs.toArray).toList = vs by simp]
  refine wpAny_pure (h _ s.toks fun b o q => ?_)
  have hlt := Heap.lt_size q
  rw [Heap.get?_update_ne _ _ _ _ (Nat.ne_of_lt hlt)]
  exact Heap.get?_push_of_some _ q
/-- collect(l) gives such a list, all stays -/
def CollR (prog : Program) (w : World) (A : Around) (s : Shared) (l : Addr) (R : List Value → Prop) : Prop :=
  ∀ (Q : List Value → Shared → Prop) (E : Value → Shared → Prop), (∀ vs h' tk, (∀ b o, s.heap.get? b = some o → h'.get? b = some o) → R vs → Q vs { s with heap := h', toks := tk }) → wpAny (model prog w) A (collect (.ref l)) Q E s
theorem Collects.r {l : Addr} {vs : List Value} {R : List Value → Prop} (h : Collects prog w A s l vs) (hr : R vs) : CollR prog w A s l R := fun Q E q => h Q E fun h' tk k => q vs h' tk k hr
/-- sorted(l, ..) over anything that is collected -/
theorem sorted_gen {l : Addr} {R : List Value → Prop} {kw : List (Str × Value)} {Q : Value → Shared → Prop} (hl : CollR prog w A.in1 s l R) (hL : ∀ vs, R vs → vs.length ≤ sizeLine) (ha1 : argsOk "sorted" ⟨[.ref l], kw⟩) (ha2 : ∀ x, argsOk "list.sort" ⟨[.ref x], kw⟩)
    (body : ∀ (vs : List Value) (h1 : Heap) (tk : Nat) (E' : Value → Shared → Prop), R vs → (∀ b o, s.heap.get? b = some o → h1.get? b = some o) → wpAny (model prog w) A.in1.in1 (Builtin.«list.sort» ⟨[.ref h1.objs.size], kw⟩) (fun f s' => f = .done (.ret .none) ∧ Q (.ref h1.objs.size) s') E' { s with heap := h1.push (seqObj "list" vs.toArray 0), toks := tk }) :
    wpAny (model prog w) A (call (.builtin "sorted") [.ref l] kw) Q E s := by
  refine call_function_entry_kw kind_sorted plain_sorted entry_sorted ha1 ?_
  unfold Builtin.«sorted»
  refine wpAny_bind (m := checkCount "sorted" 1 1 _) (wpAny_pure ?_)
  refine wpAny_bind (hl _ _ fun vs h1 tk kp hvs => ?_)
  refine wpAny_bind (wpAny_newList ?_ (hL vs hvs))
  show wpAny _ _ _ _ _ { s with heap := h1.push (seqObj "list" vs.toArray 0), toks := tk }
  refine wpAny_bind (wpAny_holding (wpAny_call_entry_kw slot_list_sort ⟨_, Heap.get?_push_size _ rfl, rfl⟩ entry_list_sort ?body (ha2 _)))
  case body =>
    show wpAny (model prog w) A.in1.in1 (Builtin.«list.sort» ⟨[.ref h1.objs.size], kw⟩) _ _ _
    refine wpAny_mono (body vs h1 tk _ hvs kp) (fun f s' hf => ?_) fun _ _ e => e
    obtain ⟨rfl, hq⟩ := hf
    exact ⟨_, rfl, wpAny_pure ⟨_, rfl, hq⟩⟩
/-- sorted of data -/
theorem sorted_dataG {β : Type} {l : Addr} {vs : List Value} {bs : List β} {enc : β → PyData} {R : Value → β → Prop} {Q : Value → Shared → Prop} (hl : Collects prog w A.in1 s l vs) (e : EachIs R vs bs) (er : EachIs (fun v b => ∃ as, Reads s.heap v (enc b) as) vs bs) (hal : AllAlike (bs.map enc)) (hk : Sortable (bs.map enc))
    (hL : bs.length ≤ sizeLine) (hu : ∀ b, b ∈ bs → A.units + 2 + (enc b).depth < cLine)
    (h : ∀ (out : List Value) (h1 h' : Heap) (tk c : Nat), (∀ b o, s.heap.get? b = some o → h1.get? b = some o) → (∀ b o, h1.get? b = some o → h'.get? b = some o) → h'.get? h1.objs.size = some (seqObj "list" (List.toArray out) c) → out.length = bs.length → EachIs R out (bs.mergeSort (dataLe false enc)) → Q (.ref h1.objs.size) { s with heap := h', toks := tk }) :
    wpAny (model prog w) A (call (.builtin "sorted") [.ref l]) Q E s := by
  refine sorted_gen (hl.r (R := fun v => v = vs) rfl) (fun v hv => by rw [hv, e.length]; exact hL) (args_sorted1 _) (fun _ => args_list_sort _) fun v h1 tk E' hv kp => ?_
  have hv := hv.symm
  subst hv
  have ho : (h1.push (seqObj "list" vs.toArray 0)).get? h1.objs.size = some (seqObj "list" vs.toArray 0) := Heap.get?_push_size _ rfl
  have kp2 : ∀ b o, h1.get? b = some o → b ≠ h1.objs.size ∧ (h1.push (seqObj "list" vs.toArray 0)).get? b = some o := fun b o q => ⟨Nat.ne_of_lt (Heap.lt_size q), Heap.get?_push_of_some _ q⟩
  have kp3 : ∀ b o, s.heap.get? b = some o → (sortingHeap (h1.push (seqObj "list" vs.toArray 0)) h1.objs.size vs).get? b = some o := fun b o q => sortingHeap_old (kp2 b o (kp b o q)).1 (kp2 b o (kp b o q)).2
  have er' : EachIs (fun v b => ∃ as, Reads (sortingHeap (h1.push (seqObj "list" vs.toArray 0)) h1.objs.size vs) v (enc b) as) vs bs := er.mono fun _ _ ⟨as, r⟩ => ⟨as, PyProof.Rows.Reads.keeps kp3 r⟩
  refine list_sort_vals (s := { s with heap := h1.push (seqObj "list" vs.toArray 0), toks := tk }) ho
    (SortsAt.data (s := { s with heap := sortingHeap (h1.push (seqObj "list" vs.toArray 0)) h1.objs.size vs, toks := tk }) (each_map (R := fun v d => ∃ as, Reads (sortingHeap (h1.push (seqObj "list" vs.toArray 0)) h1.objs.size vs) v d as) enc er') hal hk (bound_map (A := A.in1.in1) hu)) (by rw [e.length]; exact hL) ⟨rfl, ?_⟩
  obtain ⟨c, hc⟩ := sortedHeap_at (vs := vs) (out := (sortVals (dataKind (sortingHeap (h1.push (seqObj "list" vs.toArray 0)) h1.objs.size vs) (bs.map enc)) false vs vs).toArray) ho
  refine h _ h1 _ tk c kp (fun b o q => ?_) hc (by rw [sortVals_length false rfl]; exact e.length) (sortVals_data false e er' hal)
  rw [sortedHeap_old (kp2 b o q).1 (Heap.lt_size (kp2 b o q).2)]
  exact (kp2 b o q).2
end

/-! ### sorted by values -/
section
variable {X : Cx}
theorem vals_pairs : ∀ {bs : List (V × D)} {its : List Value}, Vals (bs.map Prod.fst) its → EachIs (fun u b => RelV b.1 u) its bs
  | [], _, h => by cases h; exact .nil
  | b :: bs, _, h => by
    cases h with
    | cons r t => exact .cons r (vals_pairs t)
theorem pairs_vals : ∀ {bs : List (V × D)} {its : List Value}, EachIs (fun u b => RelV b.1 u) its bs → Vals (bs.map Prod.fst) its
  | _, _, .nil => .nil
  | _, _, .cons r t => .cons r (pairs_vals t)
theorem each_reads {pins : List (Addr × Obj)} {σ : L2.St} {H : Hp} {s : Shared} (I : Inv X pins σ H s) : ∀ {bs : List (V × D)} {its : List Value}, (∀ b ∈ bs, Dp X.K H b.1 b.2) → EachIs (fun u (b : V × D) => RelV b.1 u) its bs → EachIs (fun u (b : V × D) => ∃ as, Reads s.heap u b.2 as) its bs
  | _, _, _, .nil => .nil
  | b :: bs, _, h, .cons r t => .cons (Dp.reads I _ _ _ (h b List.mem_cons_self) r) (each_reads I (fun c hc => h c (List.mem_cons_of_mem _ hc)) t)
def rSortD (K : PySem.W.Frag) : List V → Hp → VK → Prop := fun vs H Q => ∃ (p : Addr) (bs : List (V × D)), vs = [.ref p] ∧ (SqL K H p (bs.map Prod.fst) ∨ SqT K H p (bs.map Prod.fst)) ∧ (∀ b ∈ bs, Dp K H b.1 b.2) ∧ AllAlike (bs.map Prod.snd) ∧ Sortable (bs.map Prod.snd) ∧ (∀ b ∈ bs, b.2.depth ≤ 60) ∧
  ∀ l, H l = none → Q (.ref l) (upd H l (.lst ((bs.mergeSort (dataLe false Prod.snd)).map Prod.fst)))
theorem cr_sortD (hu : X.A.units + 65 < cLine) : CallR X (.builtin "sorted") (rSortD X.K) := by
  intro pins s σ H vs us Q I r h
  obtain ⟨p, bs, rfl, hs, hd, h1, h2, h3, q⟩ := h
  rw [Vals.ref1 r]
  have go : ∀ its : List Value, Vals (bs.map Prod.fst) its → Collects X.prog X.w X.A.in1 s p its → bs.length ≤ sizeLine → wpAny (model X.prog X.w) X.A (call (.builtin "sorted") [.ref p]) (EP X pins σ Q) X.xe s := fun its rv hc hz => by
    have e := vals_pairs rv
    refine sorted_dataG (enc := Prod.snd) hc e (each_reads I hd e) h1 h2 hz (fun b hb => by have := h3 b hb; omega) fun out h1 h' tk c kp kp2 ho hl he => ?_
    have hz' : ((bs.mergeSort (dataLe false Prod.snd)).map Prod.fst).length ≤ sizeLine := by rw [List.length_map, List.length_mergeSort]; exact hz
    have I1 : Inv X pins σ H { s with heap := h1, toks := tk } := I.kept kp
    exact ⟨.ref h1.objs.size, _, I1.laid (t' := tk) (o := .lst ((bs.mergeSort (dataLe false Prod.snd)).map Prod.fst)) kp2 (Nat.le_refl _) ⟨hz', out, c, pairs_vals he, ho⟩, rfl, q _ (I1.hok.fresh (Nat.le_refl _))⟩
  rcases hs with hs | hs
  · obtain ⟨its, rv, hl, hz⟩ := I.list hs
    have hz2 : bs.length ≤ sizeLine := by rw [List.length_map] at hz; exact hz
    exact go its rv (collects_list hl.isList (by rw [← Vals.length rv, List.length_map]; exact hz2)) hz2
  · obtain ⟨its, rv, ⟨o, a1, a2, n, a3⟩, hz⟩ := I.tuple hs
    have hz2 : bs.length ≤ sizeLine := by rw [List.length_map] at hz; exact hz
    exact go its rv (collects_tuple (isTuple_of a1 a2 a3) (by rw [← Vals.length rv, List.length_map]; exact hz2)) hz2
theorem depth_mem : ∀ {ds : List D} {d : D}, d ∈ ds → d.depth ≤ PyData.depthAll ds
  | e :: ds, d, h => by
    show d.depth ≤ max e.depth (PyData.depthAll ds)
    rcases List.mem_cons.mp h with h | h
    · rw [h]; exact Nat.le_max_left _ _
    · exact Nat.le_trans (depth_mem h) (Nat.le_max_right _ _)
theorem sortOk_of {ds : List D} (h : sortOk ds = true) : AllAlike ds ∧ Sortable ds ∧ PyData.depthAll ds ≤ 60 := by
  unfold sortOk at h
  rw [Bool.and_eq_true, Bool.and_eq_true, Bool.or_eq_true, decide_eq_true_iff] at h
  obtain ⟨⟨h1, h2⟩, h3⟩ := h
  refine ⟨fun d hd e he => List.all_eq_true.mp (List.all_eq_true.mp h1 d hd) e he, ?_, h3⟩
  rcases h2 with h2 | h2
  · refine .inl fun d hd => ?_
    have := List.all_eq_true.mp h2 d hd
    unfold isTupN at this
    split at this
    · exact ⟨_, _, rfl⟩
    · cases this
  · refine .inr fun d hd => ?_
    have := List.all_eq_true.mp h2 d hd
    unfold isAtm at this
    split at this
    · cases this
    · cases this
    · rename_i h1 h2
      exact ⟨fun e => h1 e, fun xs e => h2 xs e⟩
variable {C : Ct} {K : PySem.W.Frag}
/-- data and how they lie, in pairs -/
theorem dqs_pairs {K : PySem.W.Frag} {F : Hp} : ∀ {ds : List D} {xs : List V}, DqAll K F xs ds → ∃ bs : List (V × D), bs.map Prod.fst = xs ∧ bs.map Prod.snd = ds ∧ ∀ b ∈ bs, Dq K F b.1 b.2
  | [], _, h => by cases h; exact ⟨[], rfl, rfl, fun b hb => by cases hb⟩
  | d :: ds, _, h => by
    cases h with
    | cons q qs =>
      obtain ⟨bs, h1, h2, h3⟩ := dqs_pairs qs
      exact ⟨(_, d) :: bs, by rw [List.map_cons, h1], by rw [List.map_cons, h2], fun b hb => by
        rcases List.mem_cons.mp hb with e | hb
        · rw [e]; exact q
        · exact h3 b hb⟩
theorem pairs_dqs {K : PySem.W.Frag} {F : Hp} : ∀ {bs : List (V × D)}, (∀ b ∈ bs, Dq K F b.1 b.2) → DqAll K F (bs.map Prod.fst) (bs.map Prod.snd)
  | [], _ => .nil
  | b :: bs, h => .cons (h b List.mem_cons_self) (pairs_dqs fun c hc => h c (List.mem_cons_of_mem _ hc))
mutual
theorem alike_plain : ∀ (d : D), alike d d = true → d.plain = true
  | .none, _ => rfl
  | .bool _, _ => rfl
  | .int _, _ => rfl
  | .str _, _ => rfl
  | .list ds, h => alikeAll_plain ds h
  | .tuple ds, h => alikeAll_plain ds h
  | .dict _, h => by cases h
theorem alikeAll_plain : ∀ (ds : List D), alikeAll ds ds = true → PyData.plainAll ds = true
  | [], _ => rfl
  | d :: ds, h => by
    obtain ⟨h1, h2⟩ := alike_all_cons h
    show (d.plain && PyData.plainAll ds) = true
    rw [alike_plain d h1, alikeAll_plain ds h2]
    rfl
end
theorem sortD_pairs (bs : List (V × D)) : (bs.mergeSort (dataLe false Prod.snd)).map Prod.snd = sortD (bs.map Prod.snd) :=
  sort_maps Prod.snd fun a _ b _ => rfl
theorem ca_sorted (hK : C.K = K) : CaS C (rSortD K) oSorted := by
  subst hK
  intro F ρ σ H xs ds v Q S w h q
  have go : ∀ {es : List D} {ys : List V}, sortOk es = true → es.length ≤ sizeLine → v = .ow (sortD es) → DqAll C.K F ys es → ∃ bs : List (V × D), bs.map Prod.fst = ys ∧ (∀ b ∈ bs, Dp C.K H b.1 b.2) ∧ AllAlike (bs.map Prod.snd) ∧ Sortable (bs.map Prod.snd) ∧ (∀ b ∈ bs, b.2.depth ≤ 60) ∧
      ∀ l, H l = none → Q (.ref l) (upd H l (.lst ((bs.mergeSort (dataLe false Prod.snd)).map Prod.fst))) := fun {es ys} ok hz ev hd => by
    obtain ⟨bs, e1, e2, hb⟩ := dqs_pairs hd
    obtain ⟨k1, k2, k3⟩ := sortOk_of ok
    have hpl : ∀ b ∈ bs, b.2.plain = true := fun b hb => by
      have hm : b.2 ∈ es := by rw [← e2]; exact List.mem_map_of_mem (f := Prod.snd) hb
      exact alike_plain _ (k1 _ hm _ hm)
    refine ⟨bs, e1, fun b hm => dq_dp _ _ (hpl b hm) (dp_mono S.sub _ _ (hb b hm)), by rw [e2]; exact k1, by rw [e2]; exact k2, fun b hm => Nat.le_trans (depth_mem (by rw [← e2]; exact List.mem_map_of_mem (f := Prod.snd) hm)) k3, ?_⟩
    have hq : Kont C F ρ σ (.ow (sortD es)) Q := by rw [← ev]; exact q
    rw [← e2, ← sortD_pairs] at hq
    refine kont_lst S hq (pairs_dqs fun b hm => hb b ((List.mergeSort_perm bs _).mem_iff.mp hm)) ?_
    rw [List.length_map, List.length_mergeSort]
    rw [← e2, List.length_map] at hz
    exact hz
  unfold oSorted at h
  split at h
  · split at h
    · rename_i hc
      cases h
      obtain ⟨x, rfl, wv⟩ := views1 w
      obtain ⟨p, ys, rfl, h3, h4⟩ := view_lst S.sub wv
      obtain ⟨bs, rfl, g⟩ := go hc (by rw [← dps_length h4]; exact sqL_sz S.sz h3) rfl h4
      exact ⟨p, bs, rfl, .inl h3, g⟩
    · cases h
  · split at h
    · rename_i hc
      cases h
      obtain ⟨x, rfl, wv⟩ := views1 w
      obtain ⟨p, ys, rfl, h3, h4⟩ := view_tup wv
      obtain ⟨bs, rfl, g⟩ := go hc (by rw [← dps_length h4]; exact sqT_sz (K := C.K) S.sz (sqT_mono S.sub h3.sq)) rfl h4
      exact ⟨p, bs, rfl, .inr (sqT_mono S.sub h3.sq), g⟩
    · cases h
  · cases h
end
end FK

/-! FkS3: isinstance; extend, pop. -/
namespace FK
open PySem L2 PyProof.Rows

/-! ### isinstance -/
def Ty.nm : Ty → String
  | .int => "int"
  | .bool => "bool"
  | .str => "str"
  | .tup => "tuple"
  | .lst => "list"
def clsOf : D → Option String
  | .none => some "NoneType"
  | .bool _ => some "bool"
  | .int _ => some "int"
  | .str _ => some "str"
  | .list _ => some "list"
  | .tuple _ => some "tuple"
  | .dict _ => none
section
variable {C : Ct} {F H : Hp} {ρ : Rho} {σ : L2.St} {Q : VK} {K : PySem.W.Frag} {x : V} {d : D}
theorem tyx_sqL {p : Addr} {xs : List V} (h : SqL K H p xs) : TyX K H (.ref p) (.type "list") := by
  rcases h with (h | ⟨o, h⟩) | ⟨o, its, n, h1, h2, h3, _⟩
  · exact .base (.lst h)
  · exact .base (.frz h)
  · exact .kList h1 h2
theorem tyx_of (s : Same F H) (w : View C F H x d) {c : String} (h : clsOf d = some c) : TyX C.K H x (.type c) := by
  cases d with
  | none => cases h; rw [view_non w]; exact .base .non
  | bool b => cases h; rw [view_bl w]; exact .base (.bl _)
  | int i => cases h; rw [view_int w]; exact .base (.int _)
  | str z => cases h; rw [view_str w]; exact .base (.str _)
  | list ds =>
    cases h
    obtain ⟨p, xs, rfl, h1, _⟩ := view_lst s w
    exact tyx_sqL h1
  | tuple ds =>
    cases h
    obtain ⟨p, xs, rfl, ⟨o, h1, _⟩, _⟩ := view_tup w
    exact .fTuple (s _ _ h1)
  | dict kvs => cases h
theorem inst_kit {T : Ty} {v : Val} (h : oInst T d = some v) : ∃ c b, clsOf d = some c ∧ kitB c T.nm = some b ∧ v = .fz (.bool b) := by
  have k : ∀ (c : String), (c = "NoneType" ∨ c = "bool" ∨ c = "int" ∨ c = "str" ∨ c = "list" ∨ c = "tuple") → ∀ T : Ty, kitB c T.nm = some (match T with | .int => decide (c = "int" ∨ c = "bool") | .bool => decide (c = "bool") | .str => decide (c = "str") | .tup => decide (c = "tuple") | .lst => decide (c = "list")) := by
    rintro c (rfl | rfl | rfl | rfl | rfl | rfl) T <;> cases T <;> decide +kernel
  cases d with
  | none => cases h; exact ⟨_, _, rfl, k _ (by decide) T, by cases T <;> rfl⟩
  | bool b => cases h; exact ⟨_, _, rfl, k _ (by decide) T, by cases T <;> rfl⟩
  | int i => cases h; exact ⟨_, _, rfl, k _ (by decide) T, by cases T <;> rfl⟩
  | str z => cases h; exact ⟨_, _, rfl, k _ (by decide) T, by cases T <;> rfl⟩
  | list ds => cases h; exact ⟨_, _, rfl, k _ (by decide) T, by cases T <;> rfl⟩
  | tuple ds => cases h; exact ⟨_, _, rfl, k _ (by decide) T, by cases T <;> rfl⟩
  | dict kvs => cases h
theorem inst_go {W : Wish} (wm : WM W) (hK : C.K = K) {T : Ty} {a : Opd} (h : rd C W (mUn (oInst T) a) σ H Q) : tCB (rIsi K) (tCons (rdO C W a) (tCons (tC (.ty T.nm)) tNil)) σ H Q := by
  subst hK
  obtain ⟨F, ρ, S, h⟩ := h
  refine opd_run wm S h fun F1 H1 x o ρ1 s1 S1 g1 h1 => ?_
  obtain ⟨d, w1, h3⟩ := opd_get S1 g1 h1
  obtain ⟨v, e1, q⟩ := h3.lift
  obtain ⟨c, b, k1, k2, rfl⟩ := inst_kit e1
  exact ⟨x, .ty T.nm, .type c, .type T.nm, b, rfl, .ty _, tyx_of S1.sub w1 k1, kit_ty k2, q F1 H1 _ s1 S1 (.bl b)⟩
end
def tyOf (x : Str) : Option Ty := match x with
  | "int" => some .int
  | "bool" => some .bool
  | "str" => some .str
  | "tuple" => some .tup
  | "list" => some .lst
  | _ => none
theorem tyOf_boot {x : Str} {T : Ty} (h : tyOf x = some T) : bootBuiltins x = some (.type T.nm) ∧ x ≠ "__name__" ∧ (x == ("__debug__" : Str)) = false := by
  unfold tyOf at h
  split at h <;> first | (cases h; exact ⟨by decide +kernel, by decide, by decide⟩) | cases h
section
variable {X : Cx} {C : Ct} {W : Wish} {e : Expr} {p p2 pos : Pos} {x : Str} {T : Ty} {a : Opd}
theorem fe_inst (wm : WM W) (hK : C.K = X.K) (hT : tyOf x = some T) (hg : Gl X "isinstance") (hm : X.mg "isinstance" = none) (hg2 : Gl X x) (hm2 : X.mg x = none) (ha : PE X e (rdO C W a)) (hs : starEach [e, .Name x p2] X.env = (false, eval e X.env) :: starEach [.Name x p2] X.env) :
    PE X (.Call (.Name "isinstance" p) [e, .Name x p2] [] pos) (rd C W (mUn (oInst T) a)) := by
  obtain ⟨h1, h2, h3⟩ := tyOf_boot hT
  have hb : PE X (.Name x p2) (tC (.ty T.nm)) := pe_bltn hg2 hm2 h1 rfl h2 h3
  exact PE.imp (pe_callB call_isi hg hm (by decide +kernel) (pa_cons ha (pa_cons hb pa_nil rfl) hs) (by decide) (by decide) hs rfl) fun σ H Q q => inst_go wm hK q
end

/-! ### x.extend(y) -/
theorem meets_extL (l : Addr) (items : Array Value) (n : Nat) (b : Addr) (items2 : Array Value) (n2 : Nat) (d2 : Option Addr) (s2 : Array (Option Value)) (hc0 : ¬(!items.isEmpty && Builtin.List.listTooLong (items.size + items2.size)) = true) (hc1 : items.size ≤ sizeLine) (hs2 : items.size + items2.size ≤ sizeLine + 1) :
    Meets (Builtin.«list.extend» ⟨[.ref l, .ref b], []⟩) (fun _ R s => s.heap.get? l = some { cls := .type "list", dict := none, data := .seq items n, slots := #[] } ∧ s.heap.get? b = some { cls := .type "list", dict := d2, data := .seq items2 n2, slots := s2 } ∧
      R (.ok (.ret Value.none)) { s with heap := s.heap.update l (Obj.mapSeq fun x => x ++ items2), toks := s.toks }) :=
  .of_wp fun prog w A R s h => by
    obtain ⟨hp, g, d, tk, os⟩ := s; obtain ⟨hl, hb, h⟩ := h; have f1 := AutoSeq1.idx_int; have f2 := AutoSeq1.sub_tuple_tuple; have f3 := AutoSeq1.sub_list_list; have f4 := AutoSeq1.sub_tuple_list; have f5 := AutoSeq1.sub_list_tuple
    have hz' : (items ++ items2).size ≤ sizeLine + 1 := by rw [Array.size_append]; exact hs2
    wp_walk using (wpAny_updateSeq hl rfl (hz := hc1) (_hz' := hz')), wpAny_loadPart' hl, wpAny_loadPart' hb; exact ⟨_, rfl, h⟩
theorem meets_extT (l : Addr) (items : Array Value) (n : Nat) (b : Addr) (items2 : Array Value) (n2 : Nat) (d2 : Option Addr) (s2 : Array (Option Value)) (hc0 : ¬(!items.isEmpty && Builtin.List.listTooLong (items.size + items2.size)) = true) (hc1 : items.size ≤ sizeLine) (hs2 : items.size + items2.size ≤ sizeLine + 1) :
    Meets (Builtin.«list.extend» ⟨[.ref l, .ref b], []⟩) (fun _ R s => s.heap.get? l = some { cls := .type "list", dict := none, data := .seq items n, slots := #[] } ∧ s.heap.get? b = some { cls := .type "tuple", dict := d2, data := .seq items2 n2, slots := s2 } ∧
      R (.ok (.ret Value.none)) { s with heap := s.heap.update l (Obj.mapSeq fun x => x ++ items2), toks := s.toks }) :=
  .of_wp fun prog w A R s h => by
    obtain ⟨hp, g, d, tk, os⟩ := s; obtain ⟨hl, hb, h⟩ := h; have f1 := AutoSeq1.idx_int; have f2 := AutoSeq1.sub_tuple_tuple; have f3 := AutoSeq1.sub_list_list; have f4 := AutoSeq1.sub_tuple_list; have f5 := AutoSeq1.sub_list_tuple
    have hz' : (items ++ items2).size ≤ sizeLine + 1 := by rw [Array.size_append]; exact hs2
    wp_walk using (wpAny_updateSeq hl rfl (hz := hc1) (_hz' := hz')), wpAny_loadPart' hl, wpAny_loadPart' hb; exact ⟨_, rfl, h⟩
def rExt2 (K : PySem.W.Frag) : V → List V → Hp → VK → Prop := fun x vs H Q => ∃ l b xs zs, x = .ref l ∧ vs = [.ref b] ∧ H l = some (.lst xs) ∧ (SqL K H b zs ∨ SqT K H b zs) ∧ xs.length + zs.length ≤ sizeLine ∧ Q .non (upd H l (.lst (xs ++ zs)))
theorem mt_ext2 {X : Cx} : MtM X "list.extend" (rExt2 X.K) := by
  intro pins s σ H x vs v us Q I rx rv h
  obtain ⟨l, b, xs, zs, rfl, rfl, hH, hB, hz, q⟩ := h
  cases rx
  obtain ⟨u, rfl, ru⟩ := rv.one
  cases ru
  obtain ⟨z, its, n, r, hl, e⟩ := I.lstM hH
  have go : ∀ its2 : List Value, Vals zs its2 → (¬ (!its.toArray.isEmpty && Builtin.List.listTooLong (its.toArray.size + its2.toArray.size)) = true → its.toArray.size ≤ sizeLine → its.toArray.size + its2.toArray.size ≤ sizeLine + 1 →
      EP X pins σ Q Value.none { s with heap := s.heap.update l (Obj.mapSeq fun x => x ++ its2.toArray), toks := s.toks } → wpAny (model X.prog X.w) X.A (call (.builtin "list.extend") [.ref l, .ref b]) (EP X pins σ Q) X.xe s) →
      wpAny (model X.prog X.w) X.A (call (.builtin "list.extend") [.ref l, .ref b]) (EP X pins σ Q) X.xe s := fun its2 r2 g => by
    have hl2 := Vals.length r2
    have hsz : its.toArray.size + its2.toArray.size ≤ sizeLine := by rw [List.size_toArray, List.size_toArray]; omega
    refine g (by rw [notLongL hsz, Bool.and_false]; exact Bool.false_ne_true) (by rw [List.size_toArray]; omega) (by omega) ?_
    refine ⟨.non, _, I.lset (its' := its ++ its2) hH e (by simp) (r.append r2) ?_, rfl, q⟩
    rw [List.length_append]
    omega
  rcases hB with hB | hB
  · obtain ⟨its2, r2, pl, _⟩ := I.list hB
    obtain ⟨n2, sl, e2⟩ := lst_obj pl
    exact go its2 r2 fun c0 c1 c2 q => call_meets PySem.F.slot_list_extend ⟨_, e, rfl⟩ PySem.F.entry_list_extend (PySem.F.args_list_extend_2 _ _) (meets_extL l its.toArray n b its2.toArray n2 none sl c0 c1 c2) ⟨e, e2, q⟩
  · obtain ⟨its2, r2, pl, _⟩ := I.tuple hB
    obtain ⟨n2, d2, sl, e2⟩ := tup_obj pl
    exact go its2 r2 fun c0 c1 c2 q => call_meets PySem.F.slot_list_extend ⟨_, e, rfl⟩ PySem.F.entry_list_extend (PySem.F.args_list_extend_2 _ _) (meets_extT l its.toArray n b its2.toArray n2 d2 sl c0 c1 c2) ⟨e, e2, q⟩
section
variable {X : Cx} {C : Ct} {W : Wish} {m n : M Val} {σ : L2.St} {H : Hp} {D : Ends}
theorem ext_go (wm : WM W) (hK : C.K = X.K) {i : Nat} (q : rdS C W (sExt i m) D σ H) : tDrop (tBM X.K "list" (rExt2 X.K) (tVar i) (tCons (rd C W m) tNil)) D σ H := by
  obtain ⟨F, ρ, S, q⟩ := q
  have q := Pst.bnd.mp q
  obtain ⟨⟨ds, e⟩, q⟩ := chk_of q
  obtain ⟨p, xs, h1, h2, h3, h4, h5⟩ := S.owL e
  refine ⟨.ref p, h1, .inl ⟨rfl, xs, .inl (.inl h3)⟩, F, ρ, S, (Pst.bnd.mp q).imp fun v ρ1 q F1 H1 x s1 S1 r => ?_⟩
  obtain ⟨F2, s2, S2, d2⟩ := S1.freeze r
  have q := Pst.bnd.mp q
  obtain ⟨ds', u, es, e1, e2, q⟩ := chg_of q
  obtain ⟨p', ys, g1, g2, g3, g4, g5⟩ := S2.owL e1
  rw [h1] at g1
  cases g1
  unfold extD at e2
  obtain ⟨zs, k1, k2⟩ := Option.bind_eq_some_iff.mp e2
  split at k2
  · rename_i hz
    cases k2
    obtain ⟨b, ws, rfl, hq, hd⟩ := seq_of d2 k1
    have hl := dps_length g4
    have hl2 := dps_length hd
    have hz' := sz_line hz
    refine ⟨p, b, ys, ws, rfl, rfl, g3, ?_, by omega, ?_⟩
    · rw [← hK]
      exact hq.elim (fun q => .inr (sqT_mono S2.sub q)) fun q => .inl (sqL_mono S2.sub q)
    · exact q F2 σ _ (s1.trans s2) (S2.change e1 h1 (dps_append g4 hd) (by rw [List.length_append]; exact hz'))
  · cases k2
end
/-! ### x.pop(), x.pop(i) -/
section
variable {X : Cx} {C : Ct} {W : Wish} {m n : M Val} {σ : L2.St} {H : Hp} {Q : VK}
theorem pop_go (wm : WM W) (hK : C.K = X.K) {i : Nat} (q : rd C W (mPop i) σ H Q) : tBM0 X.K "list" rPop (tVar i) σ H Q := by
  obtain ⟨F, ρ, S, q⟩ := q
  have q := Pst.bnd.mp q
  obtain ⟨⟨ds, e⟩, q⟩ := chk_of q
  obtain ⟨p, xs, h1, h2, h3, h4, h5⟩ := S.owL e
  have q := Pst.bnd.mp q
  obtain ⟨ds', d, es, e1, e2, q⟩ := chg_of q
  rw [e] at e1
  cases e1
  unfold popD at e2
  split at e2
  · rename_i d' hd
    cases e2
    have hd2 : ds[ds.length - 1]? = some d := by rw [← List.getLast?_eq_getElem?]; exact hd
    obtain ⟨y, y1, y2⟩ := dps_get h4 hd2
    have hl := dps_length h4
    have hdl : DqAll C.K F xs.dropLast ds.dropLast := by
      rw [List.dropLast_eq_take, List.dropLast_eq_take, hl]
      exact dps_take _ h4
    have hz : ds.dropLast.length ≤ sizeLine := by
      have : xs.length ≤ sizeLine := S.sz _ _ h3
      rw [List.length_dropLast]
      omega
    refine ⟨.ref p, h1, .inl ⟨rfl, xs, .inl (.inl h3)⟩, p, xs, y, rfl, rfl, h3, by rw [hl]; exact y1, ?_⟩
    exact q F _ y (Same.refl F) (S.change e h1 hdl hz) y2
  · cases e2
theorem popAt_go (wm : WM W) (hK : C.K = X.K) {i : Nat} (q : rd C W (mPopAt i m) σ H Q) : tBM X.K "list" rPopAt (tVar i) (tCons (rd C W m) tNil) σ H Q := by
  obtain ⟨F, ρ, S, q⟩ := q
  have q := Pst.bnd.mp q
  obtain ⟨⟨ds, e⟩, q⟩ := chk_of q
  obtain ⟨p, xs, h1, h2, h3, h4, h5⟩ := S.owL e
  refine ⟨.ref p, h1, .inl ⟨rfl, xs, .inl (.inl h3)⟩, F, ρ, S, (Pst.bnd.mp q).imp fun v ρ1 q F1 H1 x s1 S1 r => ?_⟩
  obtain ⟨F2, s2, S2, d2⟩ := S1.freeze r
  have q := Pst.bnd.mp q
  obtain ⟨ds', d, es, e1, e2, q⟩ := chg_of q
  obtain ⟨p', ys, g1, g2, g3, g4, g5⟩ := S2.owL e1
  rw [h1] at g1
  cases g1
  unfold popAtD at e2
  split at e2
  · rename_i k hk
    split at e2
    · rename_i hs
      obtain ⟨j, j1, j2⟩ := Option.bind_eq_some_iff.mp e2
      obtain ⟨d', j3, j4⟩ := Option.map_eq_some_iff.mp j2
      cases j4
      rw [hk] at d2
      cases d2
      obtain ⟨y, y1, y2⟩ := dps_get g4 j3
      have hl := dps_length g4
      have sm := small_iff.mp hs
      have hde : DqAll C.K F2 (ys.eraseIdx j) (ds'.eraseIdx j) := by
        rw [List.eraseIdx_eq_take_drop_succ, List.eraseIdx_eq_take_drop_succ]
        exact dps_append (dps_take _ g4) (dps_drop _ g4)
      have hz : (ds'.eraseIdx j).length ≤ sizeLine := by
        have h0 : ys.length ≤ sizeLine := S2.sz _ _ g3
        have := List.length_eraseIdx_le ds' j
        omega
      refine ⟨p, ys, k, j, y, rfl, rfl, g3, by omega, by omega, by rw [hl]; exact (ixN_seq j1).1, y1, ?_⟩
      exact q F2 _ y (s1.trans s2) (S2.change e1 h1 hde hz) y2
    · cases e2
  · cases e2
end
end FK

/-! FkS4: sorted(.., key=lambda t: (row[t], t)). -/
namespace FK
open PySem L2 PyProof.Rows PySem.W

section
variable {prog : Program} {w : World} {A : Around} {s : Shared}
/-- the lambda's body -/
abbrev keyBody (r x : Str) (p1 p2 p3 p4 p5 : Pos) (k : Nat) : Expr := .Tuple [.Subscript (.Name r p1) (.Name x p2) p3, .Name x p4] k p5
theorem key_call {f c' c p : Addr} {q r x : Str} {params : Arguments} {scope : Scope} {clo : List (Str × Addr)} {pm ctv : Value} {p1 p2 p3 p4 p5 : Pos} {kk : Nat} {i n : Int} {t t2 : Tok} {items : Array Value} {j : Nat}
    (hdepth : A.depth < recursionLimit) (hf : s.heap.get? f = some (kla_obj "<lambda>" q params (keyBody r x p1 p2 p3 p4 p5 kk) scope clo pm c' ctv)) (hco : scope.isCoroutine = false) (hgen : scope.isGenerator = false) (hkind : scope.kind = .function) (hnc : ∀ y ∈ scope.names, y.2 ≠ .cell)
    (hcode : ∃ (oc : Obj) (vs : Array Value) (t : Tok), s.heap.get? c' = some oc ∧ oc.data = .fields vs ∧ vs[1]? = some (.str q t)) (hbind : ∀ v, bindArgs (kla_fn "<lambda>" q params (keyBody r x p1 p2 p3 p4 p5 kk) scope clo pm (.ref c') ctv) ⟨[v], []⟩ = pure [(x, v)])
    (hx : scope.names.lookup x = some .local) (hr : scope.names.lookup r = some .free) (hd1 : (x == ("__debug__" : Str)) = false) (hd2 : (r == ("__debug__" : Str)) = false) (hd3 : (r == ("__classdict__" : Str)) = false) (hclo : clo.lookup r = some c) (hcell : s.heap.IsCell c (some (.ref p))) (lim : s.heap.NoLimit)
    (hT : s.heap.IsTuple p items) (h1 : -(2 ^ 63) ≤ i) (h2 : i < 2 ^ 63) (hj : seqIndex? i items.size = some j) (hitem : items[j]? = some (.int n t2)) :
    wpAny (model prog w) A (call (.ref f) [.int i t]) (KeyPure (.tuple [.int n, .int i]) s) (fun _ _ => False) s := by
  refine wpAny_call (kla_callFunE hdepth hf rfl hco hgen rfl (by obtain ⟨oc, vs, t, a, b, d⟩ := hcode; exact ⟨c', oc, vs, t, rfl, a, b, d⟩) ?_)
  rw [hbind]
  refine wpAny_pure (wpAny_newFunctionEnv hnc (fun y hy => ?_) (fun h₁ hns hsb => ⟨lim.fresh _ hsb, ?_⟩) hkind)
  · rw [List.mem_singleton.mp hy]; exact hx
  have kp : ∀ b o, s.heap.get? b = some o → h₁.get? b = some o := fun b o e => hsb.extBut b o (Nat.ne_of_lt (Heap.lt_size e)) (Heap.get?_push_of_some _ e)
  have hns' : h₁.Ns s.heap.objs.size (fun y => ([(x, Value.int i t)] : List (Str × Value)).reverse.lookup y) := hns
  have lx : ([(x, Value.int i t)] : List (Str × Value)).reverse.lookup x = some (.int i t) := by simp
  show codeAny _ _ (.expr _ (envX q scope s.heap.objs.size f (.ref c') clo)) _ _
  have nm : ∀ {Q : Value → Shared → Prop} {E : Value → Shared → Prop} {tk : Nat} {pp : Pos}, Q (.int i t) { s with heap := h₁, toks := tk } → wpAny (model prog w) (A.deeper (envX q scope s.heap.objs.size f (.ref c') clo)) (eval (.Name x pp) (envX q scope s.heap.objs.size f (.ref c') clo)) Q E { s with heap := h₁, toks := tk } := fun {Q E tk pp} h =>
    wpAny_Name (wpAny_loadName_local hkind hx hns' lx h) hd1
  refine kla_codeExpr (wpAny_Tuple_spliced (Calls.spliced_cons ?_))
  refine wpAny_Subscript_Name_late (wpAny_Name (wpAny_loadName_free hkind hr hclo (v := .ref p) (by obtain ⟨o, e1, e2⟩ := hcell; exact ⟨o, kp _ _ e1, e2⟩) (nm ?_) hd3) hd2)
  have hT' : h₁.IsTuple p items := by obtain ⟨o, e1, e2, e3⟩ := hT; exact ⟨o, kp _ _ e1, e2, e3⟩
  refine ⟨"tuple", _, slot_tuple_getitem.lookup, ?_, getItem_tuple (j := j) hT' h1 h2 hj hitem (Calls.spliced_cons (nm (Calls.spliced_nil ⟨by show 2 ≤ sizeLine; decide, ?_⟩)))⟩
  · obtain ⟨o, e1, e2, _⟩ := hT'; exact ⟨o, e1, e2⟩
  exact ⟨h₁.push { cls := .type "tuple", data := .seq #[.int n t2, .int i t] }, _, rfl, fun b o e => Heap.get?_push_of_some _ (kp b o e),
    .tuple (xs := [.int n, .int i]) (as := [] ++ ([] ++ [])) (Heap.get?_push_size _ rfl) rfl rfl (.cons (.int n t2) (.cons (.int i t) .nil))⟩
/-- sorted(.., key=f): the keys (key i, i) -/
theorem sorted_keyG {E : Value → Shared → Prop} {l f : Addr} {is : List Int} {key : Int → Int} {Q : Value → Shared → Prop} (hl : CollR prog w A.in1 s l fun vs => EachIs (fun v (i : Int) => ∃ t, v = .int i t) vs is) (hL : is.length ≤ sizeLine) (hu : A.units + 3 < cLine)
    (turn : ∀ i ∈ is, ∀ (t : Tok) (h : Heap) (tk : Nat), (∀ b o, s.heap.get? b = some o → h.get? b = some o) → wpAny (model prog w) A.in1.in1 (call (.ref f) [.int i t]) (KeyPure (.tuple [.int (key i), .int i]) { s with heap := h, toks := tk }) (fun _ _ => False) { s with heap := h, toks := tk })
    (h : ∀ (out : List Value) (h1 h' : Heap) (tk c : Nat), (∀ b o, s.heap.get? b = some o → h1.get? b = some o) → (∀ b o, h1.get? b = some o → h'.get? b = some o) → h'.get? h1.objs.size = some (seqObj "list" (List.toArray out) c) → EachIs (fun v (i : Int) => ∃ t, v = .int i t) out (is.mergeSort (rowLe key)) → Q (.ref h1.objs.size) { s with heap := h', toks := tk }) :
    wpAny (model prog w) A (call (.builtin "sorted") [.ref l] [(Str.ofString "key", .ref f)]) Q E s := by
  have hal : AllAlike (is.map fun i => PyData.tuple [.int (key i), .int i]) := AllAlike.of fun _ _ => rfl
  have hk : Sortable (is.map fun i => PyData.tuple [.int (key i), .int i]) := Sortable.tuples fun _ => ⟨_, _, rfl⟩
  refine sorted_gen hl (fun vs e => by rw [e.length]; exact hL) (ksk_s1 _ _) (fun _ => ksk_l1 _ _) fun vs h1 tk E' e kp => ?_
  rw [ksk_t1]
  have kp2 : ∀ {g : Heap}, KeepsBut h1.objs.size (h1.push (seqObj "list" vs.toArray 0)) g → ∀ b o, h1.get? b = some o → g.get? b = some o := fun {g} k b o q => k b o (Nat.ne_of_lt (Heap.lt_size q)) (Heap.get?_push_of_some _ q)
  refine keyH_tree (kz := is.map fun i => PyData.tuple [.int (key i), .int i]) (s := { s with heap := h1.push (seqObj "list" vs.toArray 0), toks := tk }) (Heap.get?_push_size _ rfl) (by rw [List.length_map]; exact e.length.symm) (by rw [e.length]; exact hL) hal hk (bound_map (A := A.in1.in1) fun b _ => by
      show A.units + 1 + 1 + 1 < cLine
      omega)
    (keyH_turns (k := fun i => PyData.tuple [.int (key i), .int i]) (s := { s with heap := h1.push (seqObj "list" vs.toArray 0), toks := tk }) e fun v x hR hx h tk kq => ?_) fun h' tk out c kq hD ko => ⟨rfl, ?_⟩
  · obtain ⟨t, rfl⟩ := hR
    exact turn x hx t h tk fun b o q => kp2 kq b o (kp b o q)
  · have he := keyedOut_each (fun i => PyData.tuple [.int (key i), .int i]) ko e
    rw [dataLe_ii] at he
    exact h out h1 h' tk c kp (kp2 kq) hD he
end

/-! ### the lambda -/
open LamX
/-- what the making of a lambda does to the tables -/
inductive LamStep (T : List (Addr × Str)) (q : Str) (H : Hp) : Hp → Prop
  | same : LamStep T q H H
  | new {P c : Addr} {ps more : Array Value} (hP : H P = some (.tbl ps)) (hc : H c = none) (hT : ∀ z ∈ T, z.1 = P → z.2 = q) (tr : TriplesOk (ps ++ more).toList) (among : ∀ pos cv, codeAmong pos (ps ++ more).toList = some cv → codeAmong pos ps.toList = some cv ∨ cv = .ref c) :
      LamStep T q H (upd (upd H P (.tbl (ps ++ more))) c (CodeO c q))
theorem LamStep.sim {C : Ct} {F H H2 : Hp} {ρ : Rho} {σ : L2.St} {q : Str} (h : LamStep C.T q H H2) (S : Sim C F ρ σ H) : ∃ F', Same F F' ∧ Sim C F' ρ σ H2 := by
  cases h with
  | same => exact ⟨F, Same.refl F, S⟩
  | new hP hc hT tr among => exact ⟨_, same_new (S.free hc), S.tabbed hP hc hT tr among⟩
theorem LamStep.keep {T : List (Addr × Str)} {H H2 : Hp} {q : Str} (h : LamStep T q H H2) {b : Addr} {o : HO} (e : H b = some o) (hn : ∀ ps, o ≠ .tbl ps) : H2 b = some o := by
  cases h with
  | same => exact e
  | new hP hc hT tr among =>
    have n1 := ne_of_none e hc
    rw [upd_ne n1, upd_ne (fun z => by rw [z, hP] at e; cases e; exact hn _ rfl)]
    exact e
section
variable {X : Cx} {pins : List (Addr × Obj)} {σ : L2.St} {H : Hp} {s : Shared}
theorem lam_make3 {T : List (Addr × Str)} {c P : Addr} {params : Arguments} {body : Expr} {scope : Scope} {pos : Pos} {E : Value → Shared → Prop} {Q : Value → Shared → Prop} (I : Inv X pins σ H s) (TB : TabB X.base X.mg c P) (hcode : X.env.code = .ref c)
    (hm : (P, X.env.qual ++ "<lambda>") ∈ T) (hu : ∀ p ∈ T, p.1 = P → p.2 = X.env.qual ++ "<lambda>") (hT : Tabs T H) (hdef : defaultsOf params X.env = ([], [])) (hfree : ∀ y ∈ scope.names, y.2 = .free → ∃ c, X.env.cells.lookup y.1 = some c)
    (h : ∀ (f c' : Addr) (pm ctv : Value) (H1 : Hp) (s' : Shared), Inv X pins σ H1 s' → LamStep T (X.env.qual ++ "<lambda>") H H1 →
      s'.heap.get? f = some (kla_obj "<lambda>" (X.env.qual ++ "<lambda>") params body scope (cloFrom X.env.cells scope.names []) pm c' ctv) → H1 f = none → f ∉ frs X.stack → H1 c' = some (CodeO c' (X.env.qual ++ "<lambda>")) → Q (.ref f) s') :
    wpAny (model X.prog X.w) X.A (eval (.Lambda params body scope pos) X.env) Q E s := by
  obtain ⟨ps, hP, ht, ha⟩ := hT _ hm
  refine kla_eval hdef ?_
  have bP : s.heap.BuiltinsAt X.mg P := TB.bm.keeps I.bk
  have hP' : s.heap.get? P = some { cls := .none, data := .fields ps } := I.hok P _ hP
  have nofr : ∀ f, s.heap.objs.size ≤ f → f ∉ frs X.stack := fun f hf z => by
    rcases List.mem_cons.mp (I.stkSub _ z) with e | e
    · have h1 := I.lt
      rw [← e] at h1
      exact Nat.lt_irrefl _ (Nat.lt_of_lt_of_le h1 hf)
    · exact I.nofs hf e
  cases hc : codeAmong pos ps.toList with
  | none =>
    refine kla_makeFunction (mg := X.mg) (c := c) (P := P) (ps := ps) (closure_ok hfree) I.ok.glob (I.mod.glob.keeps I.bk) hcode (TB.code.keeps I.bk) hP' ht hc TB.gP bP fun c' ctv h' tk hx hge hlt hrec htb => ?_
    obtain ⟨c2, oc, vs, t, e2, hoc, hd, hv⟩ := hrec
    cases e2
    have hsz : s.heap.objs.size ≤ h'.objs.size := Nat.le_trans hge (Nat.le_of_lt hlt)
    have nC : H c' = none := I.hok.fresh hge
    have I1 := inv_table (t' := tk) (more := #[rawInt pos.line, rawInt pos.col, .ref c']) (h' := h'.push (kla_obj "<lambda>" (X.env.qual ++ "<lambda>") params body scope (cloFrom X.env.cells scope.names []) ((X.mg "__name__").getD .none) c' ctv)) I hP
      (fun b o hb e => Heap.get?_push_of_some _ (hx b o hb e)) (Heap.get?_push_of_some _ htb) hge ⟨oc, vs, t, Heap.get?_push_of_some _ hoc, hd, hv⟩
    have eL : (ps ++ #[rawInt pos.line, rawInt pos.col, .ref c']).toList = ps.toList ++ [rawInt pos.line, rawInt pos.col, .ref c'] := by simp
    refine h h'.objs.size c' ((X.mg "__name__").getD .none) ctv _ _ I1 (.new hP nC hu (by rw [eL]; exact PySem.TriplesOk_snoc _ _ _ _ ht) fun p' cv hcv => ?_) (Heap.get?_push_size _ rfl) ?_ (nofr _ hsz) upd_same
    · rw [eL] at hcv
      exact among_app _ ht hcv
    · have n1 : h'.objs.size ≠ c' := Nat.ne_of_gt hlt
      have n2 : h'.objs.size ≠ P := Nat.ne_of_gt (Nat.lt_of_lt_of_le (Heap.lt_size hP') hsz)
      rw [upd_ne n1, upd_ne n2]
      exact I.hok.fresh hsz
  | some cv =>
    obtain ⟨c', e, hco⟩ := ha pos cv hc
    subst e
    refine kla_makeFunctionHit (mg := X.mg) (c := c) (P := P) (ps := ps) (closure_ok hfree) I.ok.glob (I.mod.glob.keeps I.bk) hcode (TB.code.keeps I.bk) hP' ht hc bP fun ctv h' tk hx hsz => ?_
    have I1 : Inv X pins σ H { s with heap := h'.push (kla_obj "<lambda>" (X.env.qual ++ "<lambda>") params body scope (cloFrom X.env.cells scope.names []) ((X.mg "__name__").getD .none) c' ctv), toks := tk } := I.kept fun b o e => Heap.get?_push_of_some _ (hx b o e)
    exact h h'.objs.size c' ((X.mg "__name__").getD .none) ctv H _ I1 .same (Heap.get?_push_size _ rfl) (I.hok.fresh hsz) (nofr _ hsz) hco
end

/-! ### the whole -/
/-- what is sorted: a range, a list of ints -/
def CollI (K : PySem.W.Frag) (H : Hp) (p : Addr) (is : List Int) : Prop := is.length ≤ 16777216 ∧ ((∃ n : Int, H p = some (.rng 0 n) ∧ -1000000 ≤ n ∧ n ≤ 1000000 ∧ is = (List.range n.toNat).map fun (k : Nat) => (k : Int)) ∨ SqL K H p (is.map V.int))
theorem each_of_get {vs : List Value} {is : List Int} (hl : vs.length = is.length) (h : ∀ (j : Nat) (hj : j < is.length), ∃ t, vs[j]? = some (.int is[j] t)) : EachIs (fun v (i : Int) => ∃ t, v = .int i t) vs is := by
  induction is generalizing vs with
  | nil =>
    cases vs with
    | nil => exact .nil
    | cons _ _ => cases hl
  | cons i is ih =>
    cases vs with
    | nil => cases hl
    | cons v vs =>
      refine .cons ?_ (ih (by simpa using hl) fun j hj => ?_)
      · obtain ⟨t, e⟩ := h 0 (by simp)
        exact ⟨t, by simpa using e⟩
      · obtain ⟨t, e⟩ := h (j + 1) (by simpa using hj)
        exact ⟨t, by simpa using e⟩
theorem vals_each : ∀ {is : List Int} {its : List Value}, Vals (is.map V.int) its → EachIs (fun v (i : Int) => ∃ t, v = .int i t) its is
  | [], _, h => by cases h; exact .nil
  | i :: is, _, h => by
    cases h with
    | cons r t => exact .cons r (vals_each t)
theorem each_vals : ∀ {is : List Int} {its : List Value}, EachIs (fun v (i : Int) => ∃ t, v = .int i t) its is → Vals (is.map V.int) its
  | _, _, .nil => .nil
  | _, _, .cons r t => .cons r (each_vals t)
section
variable {X : Cx} {pins : List (Addr × Obj)} {σ : L2.St} {H : Hp} {s : Shared}
theorem coll_of {A : Around} (hh : A.handled = none) {p : Addr} {is : List Int} (I : Inv X pins σ H s) (h : CollI X.K H p is) : CollR X.prog X.w A s p fun vs => EachIs (fun v (i : Int) => ∃ t, v = .int i t) vs is := by
  obtain ⟨hz, h⟩ := h
  rcases h with ⟨n, hp, n1, n2, rfl⟩ | hq
  · obtain ⟨t, u, v, ho⟩ := (show ObjOk X.prog X.w H s.heap p (.rng 0 n) from I.hok p _ hp)
    have hr : IsRange s.heap p 0 n 1 t u v := ho
    refine fun Q E q => collect_range (n := n.toNat) hh (r := p) (a := 0) (b := n) (c := 1) hr (small_one (by omega) (by omega) (by omega) (by omega)) (by have := rangeSize_nat 0 n; rw [show n - 0 = n by omega] at this; exact this) (by omega) fun h' tk acc hk hi => q _ h' tk hk ?_
    refine each_of_get ?_ fun j hj => ?_
    · rw [Array.length_toList, hi.1]; simp
    · rw [List.length_map, List.length_range] at hj
      have hs : j < acc.size := by rw [hi.1]; exact hj
      obtain ⟨t, e⟩ := hi.2 j acc[j] (Array.getElem?_eq_getElem hs)
      refine ⟨t, ?_⟩
      rw [Array.getElem?_toList, Array.getElem?_eq_getElem hs, e]
      simp
  · obtain ⟨its, r, pl, hz2⟩ := I.list hq
    rw [List.length_map] at hz2
    exact (collects_list pl.isList (by rw [← Vals.length r, List.length_map]; exact hz2)).r (vals_each r)
end
end FK

/-! FkS5: sorted(range(n), key=lambda t: (row[t], t)). -/
namespace FK
open PySem L2 PyProof.Rows PySem.W LamX

section
variable {X : Cx} {a : Expr} {ta : TE}
/-- range(n), as a value -/
def tRngV (ta : TE) : TE := fun σ H Q => ta σ H fun x H1 => ∃ n, x = .int n ∧ ∀ l, H1 l = none → Q (.ref l) (upd H1 l (.rng 0 n))
theorem pe_rngV {p pos : Pos} (hg : Gl X "range") (hm : X.mg "range" = none) (ha : PE X a ta) (na : starEach [a] X.env = (false, eval a X.env) :: starEach [] X.env) : PE X (.Call (.Name "range" p) [a] [] pos) (tRngV ta) := by
  refine ⟨fun pins s σ H Q I h => ?_⟩
  refine Call_ (ld_blt I hg hm boot_range (PyProof.Rows.callWith_type1 (one_arg ha I h (fun v s2 x H2 I2 r q => ?_) na) na))
  obtain ⟨n, rfl, q⟩ := q
  obtain ⟨t, rfl⟩ := r
  refine call_range_1 ⟨.ref s2.heap.objs.size, upd H2 s2.heap.objs.size (.rng 0 n), I2.laid (t' := s2.toks + 1 + 1) (fun b o e => Heap.get?_push_of_some _ e) (Nat.le_refl _) (show ObjOk X.prog X.w _ _ _ (.rng 0 n) from ⟨_, _, _, IsRange.new _ _ _ _ _ _ _⟩), rfl, q _ (I2.hok.fresh (Nat.le_refl _))⟩
end
theorem cloFrom_look {X : Cx} {scope : Scope} {r : Str} {c : Addr} (hfree : ∀ y ∈ scope.names, y.2 = .free → ∃ c, X.env.cells.lookup y.1 = some c) (hr : scope.names.lookup r = some .free) (hc : X.env.cells.lookup r = some c) : (cloFrom X.env.cells scope.names []).lookup r = some c := by
  have hy : (r, NameKind.free) ∈ scope.names := PySem.mem_of_lookup hr
  obtain ⟨c2, e⟩ := mem_lookup (cloFrom_has (cells := X.env.cells) (acc := []) hy)
  rw [e]
  rcases cloFrom_mem (PySem.mem_of_lookup e) with hm | ⟨h1, h2⟩
  · cases hm
  · rw [h2, hc]
    rfl
/-- the lambda's own name x, and r from outside -/
structure LamK (sc scope : Scope) (r x : Str) : Prop where
  kind : scope.kind = .function
  co : scope.isCoroutine = false
  gen : scope.isGenerator = false
  nc : ∀ y ∈ scope.names, y.2 ≠ .cell
  free : ∀ y ∈ scope.names, y.2 = .free → sc.names.lookup y.1 = some .cell ∨ sc.names.lookup y.1 = some .free
  hx : scope.names.lookup x = some .local
  hr : scope.names.lookup r = some .free
  d1 : (x == ("__debug__" : Str)) = false
  d2 : (r == ("__debug__" : Str)) = false
  d3 : (r == ("__classdict__" : Str)) = false
def lamKB (sc scope : Scope) (r x : Str) : Bool :=
  decide (scope.kind = .function) && !scope.isCoroutine && !scope.isGenerator && (scope.names.all fun y => !decide (y.2 = .cell) && (!decide (y.2 = .free) || decide (sc.names.lookup y.1 = some .cell) || decide (sc.names.lookup y.1 = some .free))) && decide (scope.names.lookup x = some .local) && decide (scope.names.lookup r = some .free) &&
    !(x == ("__debug__" : Str)) && !(r == ("__debug__" : Str)) && !(r == ("__classdict__" : Str))
theorem lamK_by {sc scope : Scope} {r x : Str} (h : lamKB sc scope r x = true) : LamK sc scope r x := by
  unfold lamKB at h
  simp only [Bool.and_eq_true, Bool.or_eq_true, Bool.not_eq_true', decide_eq_true_eq, decide_eq_false_iff_not, List.all_eq_true] at h
  obtain ⟨⟨⟨⟨⟨⟨⟨⟨h1, h2⟩, h3⟩, h4⟩, h5⟩, h6⟩, h7⟩, h8⟩, h9⟩ := h
  refine ⟨h1, h2, h3, fun y hy => (h4 y hy).1, fun y hy e => ?_, h5, h6, h7, h8, h9⟩
  rcases (h4 y hy).2 with (z | z) | z
  · exact absurd e z
  · exact .inl z
  · exact .inr z
def tSortK (T : List (Addr × Str)) (q : Str) (K : PySem.W.Frag) (i : Nat) (ta : TE) : TE := fun σ H Q => ta σ H fun x H1 => ∃ p pr is row key, x = .ref p ∧ (∀ H2, LamStep T q H1 H2 → CollI K H2 p is) ∧ Tabs T H1 ∧ σ[i]? = some (some (.ref pr)) ∧ (∀ H2, LamStep T q H1 H2 → SqT K H2 pr row) ∧ (∀ k ∈ is, -(2 ^ 63) ≤ k ∧ k < 2 ^ 63 ∧ ∃ j, seqIndex? k row.length = some j ∧ row[j]? = some (.int (key k))) ∧
  ∀ H2 l, LamStep T q H1 H2 → H2 l = none → Q (.ref l) (upd H2 l (.lst ((is.mergeSort (rowLe key)).map V.int)))
section
variable {X : Cx}
theorem pe_sortK {T : List (Addr × Str)} {c P : Addr} {e : Expr} {params : Arguments} {scope : Scope} {r x : Str} {i kk : Nat} {ta : TE} {p lpos kpos pos p1 p2 p3 p4 p5 : Pos} (hg : Gl X "sorted") (hm : X.mg "sorted" = none) (ha : PE X e ta) (TB : TabB X.base X.mg c P) (hcode : X.env.code = .ref c)
    (hmT : (P, X.env.qual ++ "<lambda>") ∈ T) (hu : ∀ p ∈ T, p.1 = P → p.2 = X.env.qual ++ "<lambda>") (hr : Room 1 X.A) (hdef : defaultsOf params X.env = ([], [])) (L : LamK X.env.scope scope r x) (hi : X.N[i]? = some r) (hv : Vis X.env.scope r)
    (hbind : ∀ (q : Str) (cl : List (Str × Addr)) (pm cv ctv : Value) (b : Expr) (v : Value), bindArgs (kla_fn "<lambda>" q params b scope cl pm cv ctv) ⟨[v], []⟩ = pure [(x, v)])
    (hse : starEach [e] X.env = (false, eval e X.env) :: starEach [] X.env) (he : backTo pos (starEach [e] X.env) = (false, eval e X.env) :: backTo pos (starEach [] X.env)) (hpl : (backTo pos (starEach [e] X.env)).any (·.1) = false) :
    PE X (.Call (.Name "sorted" p) [e] [⟨some "key", .Lambda params (keyBody r x p1 p2 p3 p4 p5 kk) scope lpos, kpos⟩] pos) (tSortK T (X.env.qual ++ "<lambda>") X.K i ta) := by
  refine ⟨fun pins s σ H Q I h => ?_⟩
  have hfree : ∀ y ∈ scope.names, y.2 = .free → ∃ c, X.env.cells.lookup y.1 = some c := fun y hy e => by
    rcases L.free y hy e with k | k
    · exact I.ok.has _ (.inl k)
    · exact I.ok.has _ (.inr k)
  refine wpAny_Call_Name_kw (ld_blt I hg hm boot_sorted ?_)
  refine PyProof.Rows.callWith_kw (thn ((pa_cons ha pa_nil hse).run pos pins s σ H (fun vs H1 => match vs with
    | [x] => ∃ p pr is row key, x = .ref p ∧ (∀ H2, LamStep T (X.env.qual ++ "<lambda>") H1 H2 → CollI X.K H2 p is) ∧ Tabs T H1 ∧ σ[i]? = some (some (.ref pr)) ∧ (∀ H2, LamStep T (X.env.qual ++ "<lambda>") H1 H2 → SqT X.K H2 pr row) ∧ (∀ k ∈ is, -(2 ^ 63) ≤ k ∧ k < 2 ^ 63 ∧ ∃ j, seqIndex? k row.length = some j ∧ row[j]? = some (.int (key k))) ∧
      ∀ H2 l, LamStep T (X.env.qual ++ "<lambda>") H1 H2 → H2 l = none → Q (.ref l) (upd H2 l (.lst ((is.mergeSort (rowLe key)).map V.int)))
    | _ => False) I h) fun us s1 ⟨vs, H1, I1, r1, q1⟩ => ?_) he hpl rfl rfl
  match vs, q1 with
  | [v], q1 =>
    obtain ⟨p, pr, is, row, key, rfl, hcoll, hT, hs, hrow, hkey, q⟩ := q1
    obtain ⟨u, rfl, ru⟩ := r1.one
    cases ru
    show wpAny _ _ (evalAll ((do let v ← eval (.Lambda params (keyBody r x p1 p2 p3 p4 p5 kk) scope lpos) X.env; standAt pos; pure v) :: [])) _ _ s1
    refine wpAny_evalAll_cons (wpAny_bind (lam_make3 I1 TB hcode hmT hu hT hdef hfree fun f c' pm ctv H2 s2 I2 st hf hfn hfr hco => wpAny_bind (wpAny_standAt (wpAny_pure (wpAny_evalAll_nil ?_)))))
    show wpAny (model X.prog X.w) X.A (call (.builtin "sorted") [.ref p] [(Str.ofString "key", .ref f)]) _ _ s2
    obtain ⟨its, rv, pl, hz⟩ := I2.tuple (hrow _ st)
    obtain ⟨m, hn, hl⟩ := I2.loc
    obtain ⟨u, ru, lk⟩ := hl i r _ hi hs hv
    cases ru
    have hcell : ∃ c, X.env.cells.lookup r = some c ∧ s2.heap.IsCell c (some (.ref pr)) := by
      rcases lk with ⟨k, _⟩ | ⟨_, z⟩
      · exfalso
        have k : X.env.scope.names.lookup r = some .local := k
        rcases L.free _ (PySem.mem_of_lookup L.hr) rfl with k2 | k2 <;> rw [show X.env.scope.names.lookup r = _ from k2] at k <;> cases k
      · exact z
    obtain ⟨cr, hc1, hc2⟩ := hcell
    have hcoll2 := hcoll _ st
    have hL : is.length ≤ sizeLine := by rw [sizeLine_eq]; exact hcoll2.1
    have hun := hr.un
    refine sorted_keyG (s := s2) (key := key) (coll_of (A := X.A.in1) hr.hd I2 hcoll2) hL (by omega) (fun k hk t h' tk kp => ?_) fun out h1 h' tk c kp kp2 ho hout => ?_
    · obtain ⟨k1, k2, j, k3, k4⟩ := hkey k hk
      obtain ⟨v, v1, v2⟩ := Vals.get rv k4
      obtain ⟨t2, rfl⟩ := v2
      obtain ⟨o, a1, a2, n, a3⟩ := pl
      have hTup : s2.heap.IsTuple pr its.toArray := isTuple_of a1 a2 a3
      have hdp := hr.dp
      refine key_call (A := X.A.in1.in1) (s := { s2 with heap := h', toks := tk }) (c := cr) (p := pr) (items := its.toArray) (j := j) (t2 := t2) (by show X.A.depth < _; omega) (kp _ _ hf) L.co L.gen L.kind L.nc ?_ (hbind _ _ _ _ _ _) L.hx L.hr L.d1 L.d2 L.d3 (cloFrom_look hfree L.hr hc1) ?_ (I2.nolimit.keeps kp) ?_ k1 k2 ?_ ?_
      · obtain ⟨oc, vs, t, b1, b2, b3⟩ := (show ObjOk X.prog X.w H2 s2.heap c' (CodeO c' _) from I2.hok _ _ hco).1
        exact ⟨oc, vs, t, kp _ _ b1, b2, b3⟩
      · obtain ⟨o, e1, e2⟩ := hc2
        exact ⟨o, kp _ _ e1, e2⟩
      · obtain ⟨o, e1, e2, e3⟩ := hTup
        exact ⟨o, kp _ _ e1, e2, e3⟩
      · rw [List.size_toArray, ← Vals.length rv]; exact k3
      · rw [List.getElem?_toArray]; exact v1
    · have I3 : Inv X pins σ H2 { s2 with heap := h1, toks := tk } := I2.kept kp
      have hz' : ((is.mergeSort (rowLe key)).map V.int).length ≤ sizeLine := by rw [List.length_map, List.length_mergeSort]; exact hL
      exact ⟨.ref h1.objs.size, _, I3.laid (t' := tk) (o := .lst ((is.mergeSort (rowLe key)).map V.int)) kp2 (Nat.le_refl _) ⟨hz', out, c, each_vals hout, ho⟩, rfl, q _ _ st (I3.hok.fresh (Nat.le_refl _))⟩
end
/-! ### by values -/
section
variable {C : Ct} {W : Wish} {σ : L2.St} {H : Hp} {Q : VK}
theorem sortRow_go (wm : WM W) {q : Str} {K : PySem.W.Frag} (hK : C.K = K) {i : Nat} {a : Opd} (h : rd C W (mSortRow i a) σ H Q) : tSortK C.T q K i (tRngV (rdO C W a)) σ H Q := by
  subst hK
  obtain ⟨F, ρ, S, h⟩ := h
  refine opd_run wm S h fun F1 H1 x o ρ1 s1 S1 g1 h1 => ?_
  obtain ⟨d, w1, h3⟩ := opd_get S1 g1 h1
  obtain ⟨rv, e, h3⟩ := peek_of (Pst.bnd.mp h3)
  obtain ⟨v, e1, k⟩ := h3.lift
  obtain ⟨y, hy, wy⟩ := S1.viewAt e
  revert e1 wy
  generalize rv.data = rd
  intro e1 wy
  unfold oSortRow at e1
  split at e1
  · rename_i xs n _
    split at e1
    · rename_i hc
      cases e1
      rw [Bool.and_eq_true] at hc
      obtain ⟨hsm, hall⟩ := hc
      have hn := small_iff.mp hsm
      obtain ⟨pr, ys, rfl, hT, hd⟩ := view_tup wy
      rw [view_int w1]
      refine ⟨n, rfl, fun l hl => ?_⟩
      have S2 : Sim C F1 ρ1 σ (upd H1 l (.rng 0 n)) := S1.laid hl trivial
      have hlen := dps_length hd
      have key : ∀ k < n.toNat, ∃ z, rowAt xs k = some z ∧ ys[k]? = some (.int z) ∧ k < ys.length := fun k hk => by
        have := List.all_eq_true.mp hall k (List.mem_range.mpr hk)
        obtain ⟨z, hz⟩ := Option.isSome_iff_exists.mp this
        refine ⟨z, hz, ?_⟩
        unfold rowAt at hz
        split at hz
        · rename_i i' hx
          cases hz
          obtain ⟨u, u1, u2⟩ := dps_get hd hx
          cases u2
          exact ⟨u1, (List.getElem?_eq_some_iff.mp u1).1⟩
        · cases hz
      refine ⟨l, pr, (List.range n.toNat).map fun (k : Nat) => (k : Int), ys, fun i => (rowAt xs i.toNat).getD 0, rfl, fun H2 st => ⟨by simp; omega, .inl ⟨n, st.keep upd_same (fun ps z => by cases z), hn.1, hn.2, rfl⟩⟩, S2.tabs, hy, fun H2 st => ?_, fun k hk => ?_, fun H2 p st hp => ?_⟩
      · obtain ⟨F', s', S'⟩ := st.sim S2
        exact sqT_mono S'.sub (sqT_mono s' hT.sq)
      · obtain ⟨m, hm, rfl⟩ := List.mem_map.mp hk
        have hm := List.mem_range.mp hm
        obtain ⟨z, z1, z2, z3⟩ := key m hm
        refine ⟨by omega, by omega, m, ?_, ?_⟩
        · unfold seqIndex?
          simp
          omega
        · show ys[m]? = some (.int ((rowAt xs (m : Int).toNat).getD 0))
          rw [Int.toNat_natCast, z1]
          exact z2
      · obtain ⟨F', s', S'⟩ := st.sim S2
        refine kont_lst S' (fun F2 H3 z s2 S3 r => k F2 H3 z ((s1.trans s').trans s2) S3 r) (xs := _) ?_ ?_ p hp
        · have : ∀ is : List Int, DqAll C.K F' (is.map V.int) (is.map PyData.int) := fun is => by
            induction is with
            | nil => exact .nil
            | cons i is ih => exact .cons (.int i) ih
          exact this _
        · rw [List.length_map, List.length_mergeSort, List.length_map, List.length_range, sizeLine_eq]
          omega
    · cases e1
  · cases e1
end
section
variable {X : Cx} {C : Ct} {W : Wish}
theorem fe_sortRow (wm : WM W) (hK : C.K = X.K) {c P : Addr} {e : Expr} {params : Arguments} {scope : Scope} {r x : Str} {i kk : Nat} {a : Opd} {p pr prp lpos kpos pos p1 p2 p3 p4 p5 : Pos} (hg : Gl X "sorted") (hm : X.mg "sorted" = none) (hg2 : Gl X "range") (hm2 : X.mg "range" = none) (ha : PE X e (rdO C W a)) (TB : TabB X.base X.mg c P) (hcode : X.env.code = .ref c)
    (hmT : (P, X.env.qual ++ "<lambda>") ∈ C.T) (hu : ∀ p ∈ C.T, p.1 = P → p.2 = X.env.qual ++ "<lambda>") (hr : Room 1 X.A) (hdef : defaultsOf params X.env = ([], [])) (L : LamK X.env.scope scope r x) (hi : X.N[i]? = some r) (hv : Vis X.env.scope r)
    (hbind : ∀ (q : Str) (cl : List (Str × Addr)) (pm cv ctv : Value) (b : Expr) (v : Value), bindArgs (kla_fn "<lambda>" q params b scope cl pm cv ctv) ⟨[v], []⟩ = pure [(x, v)])
    (hs1 : starEach [e] X.env = (false, eval e X.env) :: starEach [] X.env) :
    PE X (.Call (.Name "sorted" p) [.Call (.Name "range" pr) [e] [] prp] [⟨some "key", .Lambda params (keyBody r x p1 p2 p3 p4 p5 kk) scope lpos, kpos⟩] pos) (rd C W (mSortRow i a)) :=
  PE.imp (pe_sortK hg hm (pe_rngV hg2 hm2 ha hs1) TB hcode hmT hu hr hdef L hi hv hbind rfl rfl rfl) fun _ _ _ q => sortRow_go wm hK q
end
end FK

/-! FkE4: x, y[e] = ..: names and items together. -/
namespace FK
open PySem L2 PyProof.Rows

inductive TgX where
  | tg (t : Tgt)
  | ix (i : Nat) (e : M Val)
def TgX.put : TgX → D → M Unit
  | .tg t, d => t.put d
  | .ix i e, d => bnd (chk i) fun _ => bnd e fun k => chg i (putAt d k.data)
def putXs : List TgX → List D → M Unit
  | [], [] => ret ()
  | t :: ts, d :: ds => bnd (t.put d) fun _ => putXs ts ds
  | _, _ => stop
def sPutX (ts : List TgX) (m : M Val) : MS := bnd m fun v => match v.data with
  | .tuple ds => if ds.length = ts.length then bnd (putXs ts ds) fun _ => ret .nx else stop
  | _ => stop
def rdGx (C : Ct) (W : Wish) (t : TgX) : TG := fun x σ H Q => ∃ F ρ d, Sim C F ρ σ H ∧ Dq C.K F x d ∧ Pst W F σ (t.put d ρ) fun _ ρ' => ∀ F' σ' H', Same F F' → Sim C F' ρ' σ' H' → Q σ' H'
def rdGxs (C : Ct) (W : Wish) (ts : List TgX) : TGs := fun xs σ H Q => ∃ F ρ ds, Sim C F ρ σ H ∧ DqAll C.K F xs ds ∧ Pst W F σ (putXs ts ds ρ) fun _ ρ' => ∀ F' σ' H', Same F F' → Sim C F' ρ' σ' H' → Q σ' H'
section
variable {X : Cx} {C : Ct} {W : Wish} {e : Expr} {pos : Pos} {m n : M Val} {σ : L2.St} {H : Hp} {D : Ends}
theorem fgx_t {t : Tgt} (h : PG X e (rdG C W t)) : PG X e (rdGx C W (.tg t)) := PG.imp h fun v σ H Q q => by
  obtain ⟨F, ρ, d, S, h, q⟩ := q
  have q : Pst W F σ (t.put d ρ) _ := q
  exact ⟨F, ρ, d, S, .inl h, q.imp fun _ ρ' q F' σ' H' s S' _ _ => q F' σ' H' s S'⟩
theorem gpx_ix (wm : WM W) {i : Nat} {x : V} {Q : L2.St → Hp → Prop} (q : rdGx C W (.ix i n) x σ H Q) : gSub (tVar i) (rd C W n) rSetL x σ H Q := by
  obtain ⟨F2, ρ1, d, S2, d2, q⟩ := q
  have q : Pst W F2 σ (bnd (chk i) (fun _ => bnd n fun k => chg i (putAt d k.data)) ρ1) _ := q
  have q := Pst.bnd.mp q
  obtain ⟨⟨ds, e⟩, q⟩ := chk_of q
  obtain ⟨p, xs, h1, h2, h3, h4, h5⟩ := S2.owL e
  refine ⟨.ref p, h1, F2, ρ1, S2, (Pst.bnd.mp q).imp fun w ρ2 q F3 H3 y s3 S3 r3 => ?_⟩
  obtain ⟨F4, s4, S4, d4⟩ := S3.freeze r3
  obtain ⟨ds', u, es, e1, e2, q⟩ := chg_of q
  obtain ⟨p', ys, g1, g2, g3, g4, g5⟩ := S4.owL e1
  rw [h1] at g1
  cases g1
  obtain ⟨k, j, hk, hj, rfl⟩ := putAt_of e2
  rw [hk] at d4
  cases d4
  have hz : ds'.length ≤ sizeLine := by rw [← dps_length g4]; exact S4.sz _ _ g3
  refine ⟨p, ys, k, j, rfl, rfl, g3, by rw [dps_length g4]; exact hj, ?_⟩
  exact q F4 σ _ (s3.trans s4) (S4.change e1 h1 (dps_set j g4 (dp_mono (s3.trans s4) _ _ d2)) (by rw [List.length_set]; exact hz))
theorem fgx_nil : PGs X [] (rdGxs C W []) := ⟨fun pins s σ H vs us Q I r q => pgs_nil.run pins s σ H vs us Q I r (by
  obtain ⟨F, ρ, ds, S, h, q⟩ := q
  cases ds with
  | nil =>
    cases h
    exact ⟨rfl, (show ∀ F' σ' H', Same F F' → Sim C F' ρ σ' H' → Q σ' H' from q) F σ H (Same.refl F) S⟩
  | cons d ds => exact False.elim q)⟩
theorem fgx_cons (wm : WM W) {es : List Expr} {t : TgX} {ts : List TgX} (h1 : PG X e (rdGx C W t)) (h2 : PGs X es (rdGxs C W ts)) (hs : (assignEach (e :: es) X.env).map (·.2) = assign e X.env :: (assignEach es X.env).map (·.2)) : PGs X (e :: es) (rdGxs C W (t :: ts)) :=
  ⟨fun pins s σ H vs us Q I r q => (pgs_cons h1 h2 hs).run pins s σ H vs us Q I r (by
    obtain ⟨F, ρ, ds, S, h, q⟩ := q
    cases ds with
    | nil => exact False.elim q
    | cons d ds =>
      cases h with
      | cons hd hds =>
        have q := Pst.bnd.mp q
        refine ⟨_, _, rfl, F, ρ, d, S, hd, q.imp fun _ ρ1 q F1 σ1 H1 s1 S1 => ?_⟩
        refine ⟨F1, ρ1, ds, S1, dps_mono s1 _ _ hds, (Pst.monoS wm s1 q).imp fun _ ρ2 q F2 σ2 H2 s2 S2 => ?_⟩
        exact q F2 σ2 H2 (s1.trans s2) S2)⟩
theorem fs_putX (wm : WM W) (hc : X.calm = true) (hK : C.K = X.K) {es : List Expr} {ts : List TgX} {k : Nat} {p : Pos} (h : PGs X es (rdGxs C W ts)) (hn : (assignEach es X.env).length = ts.length) (hst : (assignEach es X.env).findIdx? (·.1) = none) (he : PE X e (rd C W m))
    (hs : swapsWithSole [.Tuple es k p] e pos.line X.env = pure false) (hw : swappedStores [.Tuple es k p] e X.env = pure none) :
    PS X (.Assign [.Tuple es k p] e pos) (rdS C W (sPutX ts m)) := PS.imp (ps_asg he (pg_tup hc h hn hst) hs hw rfl) fun D σ H q => by
  obtain ⟨F, ρ, S, q⟩ := q
  refine ⟨F, ρ, S, (Pst.bnd.mp q).imp fun v ρ1 q F1 H1 x s1 S1 r => ?_⟩
  obtain ⟨F2, s2, S2, d2⟩ := S1.freeze r
  have q := Pst.mono wm (s1.trans s2) q
  obtain ⟨d, hd⟩ : ∃ d, v.data = d := ⟨_, rfl⟩
  rw [hd] at q d2
  cases d with
  | tuple ds =>
    cases d2 with
    | tup h1 h2 =>
      by_cases hl : ds.length = ts.length
      · simp only [if_pos hl] at q
        have q := Pst.bnd.mp q
        refine ⟨_, _, rfl, by rw [← hK]; exact sqT_mono S2.sub h1.sq, by rw [dps_length h2]; exact hl, F2, ρ1, ds, S2, h2, q.imp fun _ ρ2 q F3 σ3 H3 s3 S3 => ?_⟩
        exact q F3 σ3 H3 ((s1.trans s2).trans s3) S3
      · simp only [if_neg hl] at q
        exact False.elim q
  | none => exact False.elim q
  | bool _ => exact False.elim q
  | int _ => exact False.elim q
  | str _ => exact False.elim q
  | list _ => exact False.elim q
  | dict _ => exact False.elim q
end
end FK

/-! FkS6: sorted(set(..)) of ints. -/
namespace FK
open PySem PySem.Spec L2 PyProof.Rows
abbrev set0 (w : World) : Obj := { cls := .type "set", dict := none, data := .set #[] 0 (.fresh 0 0 (!w.params.followText "set-order")) }
section
variable {P : Program} {w : World} {A : Around} {E : Value → Shared → Prop} {s : Shared}
theorem call_set_lstI {l : Addr} {items : Array Value} (ns : List Int) {Q : Value → Shared → Prop} (hh : A.handled = none) (lst0 : s.heap.IsList l items) (are0 : IntsAre items.toList ns) (few0 : ns.length + 1 < scanBound)
    (h : ∀ (h' : Heap) (tk c : Nat), SetR w h' s.heap.objs.size (fun j => decide (j ∈ ns)) c → c ≤ ns.length → (∀ b o, s.heap.get? b = some o → h'.get? b = some o) → Q (.ref s.heap.objs.size) { s with heap := h', toks := tk }) :
    wpAny (model P w) A (call (.type "set") [.ref l]) Q E s := by
  have len0 : items.size = ns.length := by
    have q := IntsAre.length are0
    rw [Array.length_toList] at q
    exact q
  obtain ⟨c, tl, mro0⟩ := F.called_set.mro
  have made0 := F.called_set.made
  have sub0 := F.called_set.sub
  apply wpAny_call; refine codeAny_of_tree ?_
  change wpAny _ _ (callAny (.type "set") _) _ _ _
  refine wpAny_pure ⟨Code.quiet_builtin _ (by decide +kernel), codeAny_builtin F.entry_type_call ?_⟩
  rw [Around.under_plain (weight_type_call_type "set" [.ref l] []) rfl]
  have k1t := F.called_set.notType
  have k2t := F.called_set.canCreate
  have tc0 := F.typeCall_set_1 (.ref l)
  repeat any_goals first | assumption | wp_step

  refine codeAny_mono (code_set_led1 (.ref l) (E := E) (Q₁ := fun obj s₁ => obj = .ref s.heap.objs.size ∧ s₁ = { s with heap := s.heap.push (set0 w) }) ⟨rfl, rfl⟩) fun r s₁ gr => ?_
  cases r with
  | error e => exact gr
  | ok fl =>
    cases fl with
    | ret obj =>
      obtain ⟨rfl, rfl⟩ := gr
      have gS : (s.heap.push (set0 w)).get? s.heap.objs.size = some (set0 w) := Heap.get?_push_size _ rfl
      have gT : Shared.TypeIs { s with heap := s.heap.push (set0 w) } (.ref s.heap.objs.size) "set" := ⟨_, gS, rfl⟩
      have gli := F.called_set.init.lookup
      have gbi := F.called_set.init.bind (.ref s.heap.objs.size)
      repeat any_goals first | assumption | wp_step

      refine codeAny_mono (codeAny_call_builtin (R := wants (fun r s₂ => r = .none ∧ ∃ h' tk c, s₂ = { s with heap := h', toks := tk } ∧ SetR w h' s.heap.objs.size (fun j => decide (j ∈ ns)) c ∧ c ≤ ns.length ∧
          (∀ b o, s.heap.get? b = some o → h'.get? b = some o)) E) F.called_set.init.plain F.entry_set_init (check_set_init_1 gT ?_)) fun r₂ s₂ hr₂ => ?_
      · obtain ⟨ol0, gol, gcl, nl0, gdl⟩ := lst0
        obtain ⟨kcls, kdict, kdata, kslots⟩ := ol0
        simp only at gcl gdl
        subst gcl; subst gdl
        have gol' : (s.heap.push (set0 w)).get? l = some { cls := .type "list", dict := kdict, data := .seq items nl0, slots := kslots } := Heap.get?_push_of_some _ gol
        have ls0 := F.sub_list_set
        have lf0 := F.sub_list_frozenset
        have ne0 : (Value.type "list" == Value.type "dict") = false := by decide
        have gl1 : (s.heap.push (set0 w)).IsList l items := ⟨_, gol', rfl, nl0, rfl⟩
        unfold Builtin.«set.__init__» noKeywords Builtin.Frozenset.updateFrom
        generalize gPI : pyIter = PI
        wp_walk
        subst gPI

        refine wpAny_pyIter_list gl1 ?_
        apply wpAny_bind; refine wpAny_runValue ?_
        have glS : l < s.heap.objs.size := Heap.lt_size gol
        have hd3 : A.in1.in1.in1.handled = none := by simp [hh]
        have sz1 : (s.heap.push (set0 w)).objs.size = s.heap.objs.size + 1 := Heap.size_push ..
        have neI : l ≠ (s.heap.push (set0 w)).objs.size := by
          rw [Heap.size_push]; exact Nat.ne_of_lt (Nat.lt_succ_of_lt glS)
        have fpS : s.heap.objs.size ∉ [(s.heap.push (set0 w)).objs.size, l] := by
          rw [Heap.size_push]; simp only [List.mem_cons, List.not_mem_nil, or_false, not_or]
          exact ⟨Nat.ne_of_lt (Nat.lt_succ_self _), Nat.ne_of_gt glS⟩
        have gval : ∀ (i : Nat) (v : Value), items[i]? = some v → ∃ k t, ns[i]? = some k ∧ v = .int k t := fun i v hv => by
          have hi : i < ns.length := by rw [← len0]; exact (Array.getElem?_eq_some_iff.mp hv).1
          obtain ⟨t, e⟩ := PyProof.Rows.IntsAre.int_at are0 i v (by rw [Array.getElem?_toList]; exact hv)
          refine ⟨ns[i], t, List.getElem?_eq_getElem hi, ?_⟩
          rw [e, List.getD_eq_getElem?_getD, List.getElem?_eq_getElem hi] <;> rfl
        refine set_update_ints ((Walks.list hd3 _ l neI items).toS) s.heap.objs.size
          fpS ns len0 few0 gval (items.size - 0) 0 _ (by omega) (Nat.zero_le _)
          ⟨⟨_, Heap.get?_push_size _ rfl, rfl, rfl⟩, (gl1.push _)⟩ ?hS0 ?hR
        case hS0 =>
          have gget : ((s.heap.push (set0 w)).push { cls := .type "list_iterator", data := .fields #[.ref l, .int 0 0] }).get? s.heap.objs.size
              = some (set0 w) := Heap.get?_push_of_some _ gS
          exact ⟨0, Nat.le_refl 0, setR_new_at gget⟩
        case hR =>
          intro s' c' mv hc' gS'
          obtain ⟨h', gg2, d', tk', os'⟩ := s'
          have e1g : gg2 = s.gens := mv.gens
          have e1d : d' = s.drawn := mv.drawn
          have e1o : os' = s.os := mv.os
          subst e1g; subst e1d; subst e1o
          change wpAny _ _ _ _ _ _
          refine wpAny_pure ?_
          change wpAny _ _ (PySem.ret Value.none) _ _ _
          rw [len0] at hc'
          refine wpAny_pure ⟨rfl, h', tk', c', rfl, gS', hc', fun b o e => ?_⟩
          have nb0 : b < s.heap.objs.size := Heap.lt_size e
          have nb1 : b ≠ s.heap.objs.size := Nat.ne_of_lt nb0
          have nb2 : b ≠ (s.heap.push (set0 w)).objs.size := by
            rw [Heap.size_push]; exact Nat.ne_of_lt (Nat.lt_succ_of_lt nb0)
          exact mv.heap b o (by simp only [List.mem_cons, List.not_mem_nil, or_false, not_or]; exact ⟨nb1, nb2⟩) (Heap.get?_push_of_some _ (Heap.get?_push_of_some _ e))

      · cases r₂ with
        | error e => exact hr₂
        | ok fl₂ =>
          cases fl₂ with
          | ret r =>
            obtain ⟨rfl, h', tk, c', rfl, gS', hc', hk'⟩ := hr₂
            repeat any_goals first | assumption | wp_step
            exact h _ _ _ gS' hc' hk'
          | _ => exact hr₂.elim
    | _ => exact gr.elim

/-- sorted of a set of ints, however many -/
theorem sorted_setI {a : Addr} {S : Int → Bool} {n : Nat} {Q : Value → Shared → Prop} (R : SetR w s.heap a S n) (hd : A.handled = none) (hu : A.units + 3 < cLine)
    (hQ : ∀ (s' : Shared) (p : Addr) (out : List Value) (c : Nat) (is : List Int), (∀ b o, s.heap.get? b = some o → s'.heap.get? b = some o) → s'.gens = s.gens → s'.os = s.os → s.heap.objs.size ≤ p →
      s'.heap.get? p = some (seqObj "list" out.toArray c) → PySem.W.EachIs (fun v (i : Int) => ∃ t, v = .int i t) out is → is.Pairwise (· ≤ ·) → is.Nodup → (∀ k, k ∈ is ↔ S k = true) → is.length = n → Q (.ref p) s') :
    wpAny (model P w) A (call (.builtin "sorted") [.ref a]) Q E s := by
  obtain ⟨o, es, ep, t, ho, hex, hdt, g, nd, hm, few, hf, hn, hr, hl⟩ := R
  refine Calls.call_function_entry kind_sorted plain_sorted entry_sorted (args_sorted1 _) ?_
  unfold Builtin.«sorted»
  refine wpAny_bind (m := checkCount "sorted" 1 1 _) (wpAny_pure ?_)
  refine wpAny_bind (collect_set (A := A.in1) hd ⟨o, ho, hex.1, hdt⟩ hf few hr hl fun s1 vs k1 hz g1 o1 pm => ?_)
  have lenV : vs.length = n := by rw [pm.length_eq, List.length_map, Array.length_toList]; exact hn
  have bnd : n < 4096 := by rw [← hn]; exact few
  obtain ⟨is, hI, pk⟩ : ∃ is : List Int, PySem.W.EachIs (fun v (i : Int) => ∃ t, v = .int i t) vs is ∧ is.Perm (es.toList.map keyOf) := by
    have aux : ∀ us : List Value, (∀ v ∈ us, ∃ k t, v = Value.int k t) → PySem.W.EachIs (fun v (i : Int) => ∃ t, v = .int i t) us (us.map Builtin.Re.reRawOf) := fun us hus => by
      induction us with
      | nil => exact .nil
      | cons u us ih =>
        obtain ⟨k, tk, rfl⟩ := hus u List.mem_cons_self
        exact .cons ⟨tk, rfl⟩ (ih fun v hv => hus v (List.mem_cons_of_mem _ hv))
    refine ⟨vs.map Builtin.Re.reRawOf, aux vs fun v hv => ?_, ?_⟩
    · obtain ⟨e, he, q⟩ := List.mem_map.mp (pm.mem_iff.mp hv)
      obtain ⟨k, tk, e1, _⟩ := g e he
      exact ⟨k, tk, by rw [← q]; exact e1⟩
    · have q := pm.map Builtin.Re.reRawOf
      rw [List.map_map] at q
      exact q
  refine wpAny_bind (wpAny_newList ?_ (by rw [lenV, sizeLine_eq]; omega))
  have hoL : (s1.heap.push (seqObj "list" vs.toArray 0)).get? s1.heap.objs.size = some (seqObj "list" vs.toArray 0) := Heap.get?_push_size _ rfl
  have er : PySem.W.EachIs (fun v (i : Int) => ∃ as, Reads (PySem.W.sortingHeap (s1.heap.push (seqObj "list" vs.toArray 0)) s1.heap.objs.size vs) v (PyData.int i) as) vs is := hI.mono fun _ _ ⟨t, e⟩ => by
    subst e
    exact ⟨_, .int _ t⟩
  have hal : PySem.W.AllAlike (is.map PyData.int) := PySem.W.AllAlike.of fun _ _ => rfl
  have hk : PySem.W.Sortable (is.map PyData.int) := PySem.W.Sortable.others fun i => ⟨(fun z => by cases z), fun _ z => by cases z⟩
  refine wpAny_bind (wpAny_holding (wpAny_call_entry slot_list_sort ⟨_, hoL, rfl⟩ entry_list_sort (PySem.W.list_sort_vals (s := { s1 with heap := s1.heap.push (seqObj "list" vs.toArray 0) }) hoL
    (PySem.W.SortsAt.data (s := { s1 with heap := PySem.W.sortingHeap (s1.heap.push (seqObj "list" vs.toArray 0)) s1.heap.objs.size vs }) (PySem.W.each_map (R := fun v d => ∃ as, Reads (PySem.W.sortingHeap (s1.heap.push (seqObj "list" vs.toArray 0)) s1.heap.objs.size vs) v d as) PyData.int er) hal hk (PySem.W.bound_map (A := A.in1.in1) fun b _ => by
      show A.units + 1 + 1 + 0 < cLine
      omega)) (by rw [lenV, sizeLine_eq]; omega) ⟨_, rfl, ?_⟩) (args_list_sort _)))
  obtain ⟨c, hc⟩ := sortedHeap_at (vs := vs) (out := (PySem.W.sortVals (PySem.W.dataKind (PySem.W.sortingHeap (s1.heap.push (seqObj "list" vs.toArray 0)) s1.heap.objs.size vs) (is.map PyData.int)) false vs vs).toArray) hoL
  have he := PySem.W.sortVals_data false hI er hal
  have pe : (is.mergeSort (PySem.W.dataLe false PyData.int)).Perm (es.toList.map keyOf) := (List.mergeSort_perm is _).trans pk
  refine wpAny_pure ⟨_, rfl, hQ _ s1.heap.objs.size _ c _ (fun b u e => ?_) g1 o1 hz hc he ?_ (pe.nodup_iff.mpr nd) (fun k => by rw [pe.mem_iff, ← hm k]) (by rw [pe.length_eq, List.length_map, Array.length_toList]; exact hn)⟩
  · have q := k1 b u e
    have hlt := Heap.lt_size q
    refine Eq.trans (sortedHeap_old (Nat.ne_of_lt hlt) (by rw [Heap.size_push]; exact Nat.lt_succ_of_lt hlt)) ?_
    exact Heap.get?_push_of_some _ q
  · have e := PySem.W.dataLe_int (β := Int) id
    have e2 : PySem.W.dataLe false PyData.int = fun a b : Int => decide (a ≤ b) := e
    rw [e2]
    have := List.pairwise_mergeSort (le := fun a b : Int => decide (a ≤ b)) (fun a b c h1 h2 => by simp at *; omega) (fun a b => by simp; omega) is
    exact this.imp fun h => of_decide_eq_true h
end
theorem insU_mem {i k : Int} : ∀ {l : List Int}, k ∈ insU i l ↔ k = i ∨ k ∈ l
  | [] => by simp [insU]
  | j :: l => by
    unfold insU
    split
    · simp
    · split
      · rename_i h; subst h; simp
      · rw [List.mem_cons, insU_mem (l := l), List.mem_cons]
        constructor
        · rintro (h | h | h)
          · exact .inr (.inl h)
          · exact .inl h
          · exact .inr (.inr h)
        · rintro (h | h | h)
          · exact .inr (.inl h)
          · exact .inl h
          · exact .inr (.inr h)
theorem insU_lt {i : Int} : ∀ {l : List Int}, l.Pairwise (· < ·) → (insU i l).Pairwise (· < ·)
  | [], _ => by simp [insU]
  | j :: l, h => by
    unfold insU
    obtain ⟨h1, h2⟩ := List.pairwise_cons.mp h
    split
    · rename_i c
      refine List.pairwise_cons.mpr ⟨fun y hy => ?_, h⟩
      rcases List.mem_cons.mp hy with e | hy
      · rw [e]; exact c
      · have := h1 y hy; omega
    · split
      · exact h
      · rename_i c1 c2
        refine List.pairwise_cons.mpr ⟨fun y hy => ?_, insU_lt h2⟩
        rcases insU_mem.mp hy with e | hy
        · rw [e]; omega
        · exact h1 y hy
theorem sortU_mem {k : Int} : ∀ {is : List Int}, k ∈ sortU is ↔ k ∈ is
  | [] => Iff.rfl
  | i :: is => by
    show k ∈ insU i (sortU is) ↔ _
    rw [insU_mem, sortU_mem, List.mem_cons]
theorem sortU_lt : ∀ {is : List Int}, (sortU is).Pairwise (· < ·)
  | [] => List.Pairwise.nil
  | _ :: _ => insU_lt sortU_lt
theorem lt_ext : ∀ {l m : List Int}, l.Pairwise (· < ·) → m.Pairwise (· < ·) → (∀ k, k ∈ l ↔ k ∈ m) → l = m
  | [], [], _, _, _ => rfl
  | [], y :: m, _, _, h => absurd ((h y).mpr List.mem_cons_self) (by simp)
  | x :: l, [], _, _, h => absurd ((h x).mp List.mem_cons_self) (by simp)
  | x :: l, y :: m, h1, h2, h => by
    obtain ⟨a1, a2⟩ := List.pairwise_cons.mp h1
    obtain ⟨b1, b2⟩ := List.pairwise_cons.mp h2
    have e : x = y := by
      have p := (h x).mp List.mem_cons_self
      have q := (h y).mpr List.mem_cons_self
      rcases List.mem_cons.mp p with p | p
      · exact p
      · rcases List.mem_cons.mp q with q | q
        · exact q.symm
        · have := a1 y q
          have := b1 x p
          omega
    subst e
    rw [lt_ext a2 b2 fun k => ?_]
    constructor
    · intro hk
      rcases List.mem_cons.mp ((h k).mp (List.mem_cons_of_mem _ hk)) with e | hk'
      · have := a1 k hk; omega
      · exact hk'
    · intro hk
      rcases List.mem_cons.mp ((h k).mpr (List.mem_cons_of_mem _ hk)) with e | hk'
      · have := b1 k hk; omega
      · exact hk'
theorem le_lt {l : List Int} : l.Pairwise (· ≤ ·) → l.Nodup → l.Pairwise (· < ·) := fun h1 h2 => by
  induction l with
  | nil => exact .nil
  | cons x l ih =>
    obtain ⟨a1, a2⟩ := List.pairwise_cons.mp h1
    obtain ⟨b1, b2⟩ := List.nodup_cons.mp h2
    refine List.pairwise_cons.mpr ⟨fun y hy => ?_, ih a2 b2⟩
    have := a1 y hy
    have : x ≠ y := fun z => b1 (z ▸ hy)
    omega
theorem sortU_len : ∀ {is : List Int}, (sortU is).length ≤ is.length
  | [] => Nat.le_refl 0
  | i :: is => by
    have ins : ∀ l : List Int, (insU i l).length ≤ l.length + 1 := fun l => by
      induction l with
      | nil => simp [insU]
      | cons j l ih =>
        unfold insU
        split
        · simp
        · split <;> simp <;> omega
    have := ins (sortU is)
    have := sortU_len (is := is)
    show (insU i (sortU is)).length ≤ is.length + 1
    omega
section
variable {X : Cx} {a : Expr} {ta : TE}
def tSortSet (K : PySem.W.Frag) (ta : TE) : TE := fun σ H Q => ta σ H fun x H1 => ∃ (l : Addr) (is : List Int), x = .ref l ∧ SqL K H1 l (is.map V.int) ∧ is.length ≤ 4000 ∧ ∀ p, H1 p = none → Q (.ref p) (upd H1 p (.lst ((sortU is).map V.int)))
theorem pe_sortSet (hc : X.calm = true) (hu : X.A.units + 65 < cLine) {p p2 q pos : Pos} (hg : Gl X "sorted") (hm : X.mg "sorted" = none) (hg2 : Gl X "set") (hm2 : X.mg "set" = none) (ha : PE X a ta)
    (na : starEach [a] X.env = (false, eval a X.env) :: starEach [] X.env) : PE X (.Call (.Name "sorted" p) [.Call (.Name "set" p2) [a] [] q] [] pos) (tSortSet X.K ta) := by
  refine ⟨fun pins s σ H Q I h => ?_⟩
  refine Call_ (ld_blt I hg hm boot_sorted ?_)
  refine PyProof.Rows.callWith_builtin1 (PyProof.Rows.args_cons ?_ rfl) rfl rfl
  refine Call_ (ld_blt I hg2 hm2 boot_set ?_)
  refine PyProof.Rows.callWith_type1 (PyProof.Rows.args_cons (thn (ha.run pins s σ H _ I h) fun v s1 ⟨x, H1, I1, r1, q1⟩ => PyProof.Rows.args_nil ?_) na) na rfl
  obtain ⟨l, is, rfl, hq, hz, q1⟩ := q1
  cases r1
  have hd := I1.ok.hd hc
  obtain ⟨its, rv, pl, hl⟩ := I1.list hq
  have hi := ints_of_vals rv
  refine call_set_lstI is hd pl.isList hi (by show is.length + 1 < 4096; omega) fun h' tk c R hcl kp => ?_
  refine PyProof.Rows.args_nil ?_
  refine sorted_setI (s := { s1 with heap := h', toks := tk }) R hd (by omega) fun s' p out c ns k g o hp hg hi hs hnd hm hl => ?_
  have e : ns = sortU is := lt_ext (le_lt hs hnd) sortU_lt fun k => by rw [hm k, sortU_mem, decide_eq_true_iff]
  subst e
  have hlen : ((sortU is).map V.int).length ≤ sizeLine := by
    have := sortU_len (is := is)
    rw [List.length_map, sizeLine_eq]; omega
  have I2 : Inv X pins σ H1 { s1 with heap := h', toks := tk } := I1.kept kp
  have hn : H1 p = none := I2.hok.fresh hp
  have J : Inv X pins σ (upd H1 p (.lst ((sortU is).map V.int))) { ({ s1 with heap := h', toks := tk } : Shared) with heap := s'.heap, gens := s'.gens, drawn := s'.drawn, toks := s'.toks } :=
    I2.call (ch := []) (Un.laid k hp hn) (I2.hok.laid k hp ⟨hlen, out, c, each_vals hi, hg⟩) (by rw [g]; exact I2.bare) (fun _ z => nomatch z)
  have e : s' = { ({ s1 with heap := h', toks := tk } : Shared) with heap := s'.heap, gens := s'.gens, drawn := s'.drawn, toks := s'.toks } := by
    cases s'
    cases s1
    cases o
    rfl
  rw [e]
  exact ⟨.ref p, _, J, rfl, q1 p hn⟩
end
section
variable {X : Cx} {C : Ct} {W : Wish} {e : Expr} {a : Opd}
theorem fe_sortSet (wm : WM W) (hK : C.K = X.K) (hc : X.calm = true) (hu : X.A.units + 65 < cLine) {p p2 q pos : Pos} (hg : Gl X "sorted") (hm : X.mg "sorted" = none) (hg2 : Gl X "set") (hm2 : X.mg "set" = none) (ha : PE X e (rdO C W a))
    (na : starEach [e] X.env = (false, eval e X.env) :: starEach [] X.env) : PE X (.Call (.Name "sorted" p) [.Call (.Name "set" p2) [e] [] q] [] pos) (rd C W (mUn oSortSet a)) :=
  PE.imp (pe_sortSet hc hu hg hm hg2 hm2 ha na) fun σ H Q h => by
    rw [← hK]
    obtain ⟨F, ρ, S, h⟩ := h
    refine opd_run wm S h fun F1 H1 x o ρ1 s1 S1 g1 h1 => ?_
    obtain ⟨d, w1, h3⟩ := opd_get S1 g1 h1
    obtain ⟨v, e1, k⟩ := h3.lift
    unfold oSortSet at e1
    split at e1
    · rename_i xs
      obtain ⟨is, i1, i2⟩ := Option.bind_eq_some_iff.mp e1
      split at i2
      · rename_i hz
        cases i2
        obtain ⟨l, ys, rfl, hq, hd⟩ := view_lst S1.sub w1
        have ey := intsOf_vals hd i1
        subst ey
        refine ⟨l, is, rfl, hq, hz, fun p hp => ?_⟩
        refine kont_lst S1 (fun F2 H3 z s2 S3 r => k F2 H3 z (s1.trans s2) S3 r) (ds := (sortU is).map PyData.int) ?_ ?_ p hp
        · have : ∀ is : List Int, DqAll C.K F1 (is.map V.int) (is.map PyData.int) := fun is => by
            induction is with
            | nil => exact .nil
            | cons i is ih => exact .cons (.int i) ih
          exact this _
        · have := sortU_len (is := is)
          rw [List.length_map, sizeLine_eq]; omega
      · cases i2
    · cases e1
end
end FK

/-! FkS7: comprehensions over a list of one's own, which waits meanwhile. -/
namespace FK
open PySem L2 PyProof.Rows
section
variable {C : Ct} {F F' H H' : Hp} {ρ ρ' : Rho} {σ : L2.St} {p : Addr} {xs : List V} {ds : List D} {i : Nat}
theorem set_none {j : Nat} {v : Val} (e : (ρ.set i none)[j]? = some (some v)) : i ≠ j ∧ ρ[j]? = some (some v) := by
  by_cases ij : i = j
  · subst ij
    by_cases hi : i < ρ.length
    · rw [List.getElem?_set_self hi] at e; cases e
    · rw [List.getElem?_eq_none (by rw [List.length_set]; omega)] at e; cases e
  · exact ⟨ij, by rw [List.getElem?_set_ne ij] at e; exact e⟩
/-- a slot is looked away from -/
theorem Sim.blind (S : Sim C F ρ σ H) : Sim C F (ρ.set i none) σ H :=
  ⟨by rw [List.length_set]; exact S.len, S.sub, S.sz, fun j d e => S.fz j d (set_none e).2, fun j u y e hy => S.ow j u y (set_none e).2 hy, fun j k u u' y y' q ne e1 k1 e2 k2 e3 => S.dist j k u u' y y' q ne (set_none e1).2 k1 (set_none e2).2 k2 e3, S.brs, S.bt, S.ext, S.ht, S.f0, S.new,
    fun a u e => let ⟨h1, h2, h3, h4⟩ := S.zp a u e; ⟨h1, h2, h3, fun j u' y e2 hy => h4 j u' y (set_none e2).2 hy⟩, S.tb, S.nt⟩
theorem Sim.borrow (S : Sim C F ρ σ H) (e : ρ[i]? = some (some (.ow ds))) : ∃ p xs, σ[i]? = some (some (.ref p)) ∧ H p = some (.lst xs) ∧ C.Z p = none ∧ DqAll C.K F xs ds ∧ ((i, p) ∈ C.Bs ∨ C.H0 p = none) ∧ Sim (C.wz (upd C.Z p (.lst xs))) F (ρ.set i none) σ H := by
  obtain ⟨p, xs, h1, h2, h3, h4, h5⟩ := S.owL e
  have hz : C.Z p = none := by
    cases q : C.Z p with
    | none => rfl
    | some o => exact absurd h1 ((S.zp p o q).2.2.2 i _ (.lst ds) e rfl)
  refine ⟨p, xs, h1, h3, hz, h4, h5, S.blind.lock h2 h3 (fun ps e => by cases e) fun j v w k hw z => ?_⟩
  obtain ⟨n, k⟩ := set_none k
  exact S.dist i j _ v (.lst ds) w p n e rfl k hw h1 z
theorem Sim.giveback (S : Sim (C.wz (upd C.Z p (.lst xs))) F ρ σ H) (hZ : C.Z p = none) (hs : σ[i]? = some (some (.ref p))) (hd : DqAll C.K F xs ds) (h0 : (i, p) ∈ C.Bs ∨ C.H0 p = none) : Sim C F (ρ.set i (some (.ow ds))) σ H := by
  obtain ⟨S, g1, g2, g3⟩ := S.unlock hZ
  have hl : i < ρ.length := by
    rw [S.len]
    exact (List.getElem?_eq_some_iff.mp hs).1
  have get : ∀ {j : Nat} {v : Val}, (ρ.set i (some (.ow ds)))[j]? = some (some v) → (i = j ∧ v = .ow ds) ∨ (i ≠ j ∧ ρ[j]? = some (some v)) := fun {j v} e => by
    by_cases ij : i = j
    · subst ij
      rw [List.getElem?_set_self hl] at e
      cases e
      exact .inl ⟨rfl, rfl⟩
    · exact .inr ⟨ij, by rw [List.getElem?_set_ne ij] at e; exact e⟩
  refine ⟨by rw [List.length_set]; exact S.len, S.sub, S.sz, fun j d e => ?_, fun j u y e hy => ?_, fun j k u u' y y' q ne e1 k1 e2 k2 e3 => ?_, S.brs, S.bt, S.ext, S.ht, S.f0, S.new, fun a u e => ?_, S.tb, S.nt⟩
  · rcases get e with ⟨_, z⟩ | ⟨_, e⟩
    · cases z
    · exact S.fz j d e
  · rcases get e with ⟨rfl, rfl⟩ | ⟨_, e⟩
    · cases hy
      exact ⟨p, _, hs, g2, g1, ⟨xs, rfl, hd⟩, h0⟩
    · exact S.ow j u y e hy
  · rcases get e1 with ⟨rfl, rfl⟩ | ⟨n1, e1⟩
    · rcases get e2 with ⟨z, _⟩ | ⟨n2, e2⟩
      · exact absurd z ne
      · rw [hs] at e3
        cases e3
        exact g3 k u' y' e2 k2
    · rcases get e2 with ⟨rfl, rfl⟩ | ⟨n2, e2⟩
      · rw [hs]
        intro z
        cases z
        exact g3 j u y e1 k1 e3
      · exact S.dist j k u u' y y' q ne e1 k1 e2 k2 e3
  · obtain ⟨h1, h2, h3, h4⟩ := S.zp a u e
    refine ⟨h1, h2, h3, fun j u' y e2 hy => ?_⟩
    rcases get e2 with ⟨rfl, rfl⟩ | ⟨_, e2⟩
    · rw [hs]
      intro z
      cases z
      rw [hZ] at e
      cases e
    · exact h4 j u' y e2 hy
end
section
variable {X : Cx} {C : Ct} {W : Wish} {tg e : Expr} {σ : L2.St} {H : Hp}
def kindL (en : Bool) (ds : List D) : List D := if en then enumL 0 ds else ds
/-- the list at slot i is walked -/
def rdIB (C : Ct) (i : Nat) (en : Bool) : TI := fun σ H R => ∃ p xs ds F ρ, σ[i]? = some (some (.ref p)) ∧ H p = some (.lst xs) ∧ xs.length ≤ sizeLine ∧ DqAll C.K F xs ds ∧ Sim (C.wz (upd C.Z p (.lst xs))) F ρ σ H ∧ ∀ J, WalkD (C.wz (upd C.Z p (.lst xs))) F J en (kindL en ds) → R J H
theorem lcB_go (wm : WM W) {i : Nat} {en : Bool} {t : Tgt} {c : M Bool} {e : M Val} {vs : List Nat} {Q : VK} (hb : ∀ q ∈ C.Bs, q.1 ∉ vs) (ht : ∀ i ∈ t.slots, i ∈ vs) (hwk : en = true → t.isTup = true) (h : rd C W (mCompB i en vs t c e) σ H Q) :
    tLc (rdIB C i en) (rdGZ C t) (rdTZ C c) (rdZ C WF e) vs σ H Q := by
  obtain ⟨F, ρ, S, h⟩ := h
  unfold mCompB at h
  split at h
  · rename_i ds e1
    obtain ⟨p, xs, h1, h2, hZ, h4, h5, S'⟩ := S.borrow e1
    refine ⟨p, xs, ds, F, ρ.set i none, h1, h2, S.sz _ _ h2, h4, S', fun J wk => ?_⟩
    have q : Pst W F σ (mComp vs (ret (kindL en ds)) t c e (ρ.set i none)) fun v ρ' => ∀ F' H' x, Same F F' → Sim (C.wz (upd C.Z p (.lst xs))) F' ρ' σ H' → RV (C.wz (upd C.Z p (.lst xs))) F' ρ' σ H' v x → Q x H' := by
      have h : Pst W F σ (match mComp vs (ret (kindL en ds)) t c e (ρ.set i none) with
        | .ok v ρ' => R.ok v (ρ'.set i (some (.ow ds)))
        | _ => .bad) _ := h
      cases em : mComp vs (ret (kindL en ds)) t c e (ρ.set i none) with
      | bad => rw [em] at h; exact h
      | exc _ _ _ => rw [em] at h; exact False.elim h
      | ok v ρ' =>
        rw [em] at h
        intro F' H' x s S2 r2
        have S3 := S2.giveback hZ h1 (dps_mono s _ _ h4) h5
        refine h F' H' x s S3 ?_
        rcases own_cases v with ⟨d, rfl⟩ | ⟨w, hw⟩
        · exact r2
        · rw [rv_own hw] at r2 ⊢
          obtain ⟨a, o, rfl, a1, a2, a3, a4, a5, a6⟩ := r2
          have ne : a ≠ p := fun z => by
            have a5 : upd C.Z p (.lst xs) a = none := a5
            rw [z, upd_same] at a5
            cases a5
          have a5' : C.Z a = none := by
            have a5 : upd C.Z p (.lst xs) a = none := a5
            rw [upd_ne ne] at a5
            exact a5
          refine ⟨a, o, rfl, a1, a2, a3, a4, a5', fun j u y k hy => ?_⟩
          by_cases ij : i = j
          · subst ij
            rw [h1]
            intro z
            cases z
            exact ne rfl
          · rw [List.getElem?_set_ne ij] at k
            exact a6 j u y k hy
    have q2 := lc_at (C := C.wz (upd C.Z p (.lst xs))) wm hb ht hwk S' q
    exact q2 F H J (Same.refl F) S' wk
  · exact False.elim h
theorem pi_B {i : Nat} (hK : C.K = X.K) (h : PE X e (tVar i)) : PI X tg e (rdIB C i false) := PI.imp (pi_list h) fun σ H R ⟨p, xs, ds, F, ρ, h1, h2, h3, h4, S, k⟩ =>
  ⟨_, h1, p, rfl, ⟨xs, .inl (.inl h2)⟩, by rw [← hK]; exact k _ (walkZ_list h3 h4)⟩
theorem pi_BE {i : Nat} (hK : C.K = X.K) {p pos : Pos} {elts : List Expr} {kk : Nat} {tpos : Pos} (hg : Gl X "enumerate") (hm : X.mg "enumerate" = none) (he : PE X e (tVar i)) (hs : starEach [e] X.env = [(false, eval e X.env)]) :
    PI X (.Tuple elts kk tpos) (.Call (.Name "enumerate" p) [e] [] pos) (rdIB C i true) := by
  refine ⟨fun pins s σ H R I ⟨a, xs, ds, F, ρ, h1, h2, h3, h4, S, k⟩ => ?_⟩
  have ha : PA X [e] (tCons (tVar i) tNil) := pa_cons he pa_nil hs
  refine Call_ (ld_blt I hg hm boot_enumerate (PyProof.Rows.callWith_type1 (thn (ha.run pos pins s σ H (fun vs H1 => vs = [.ref a] ∧ H1 = H) I ⟨_, h1, rfl, rfl⟩) fun us s1 ⟨vs, H1, I1, r1, q1⟩ => ?_) hs rfl))
  obtain ⟨rfl, rfl⟩ := q1
  obtain ⟨u, rfl, ru⟩ := vals1 r1
  cases ru
  have hx : SqL X.K H1 a xs := .inl (.inl h2)
  have qR : R (ItE (SqL X.K) a 0) H1 := by rw [← hK]; exact k _ (walkZ_E h3 h4)
  have Rr := src_list (P := X.prog) (w := X.w) (K := X.K)
  obtain ⟨its, rv, hso⟩ := Rr.read X rfl rfl rfl pins σ H1 s1 a xs I1 hx
  have hlt := Rr.lt _ _ _ hso
  refine call_enum1 (Rr.begins a its.toArray) hso fun h' hE hI hk => wpAny_pyIter_enum hE ?_
  have I2 : Inv X pins σ H1 { s1 with heap := h' } := I1.kept (t' := s1.toks) hk
  refine ⟨s1.heap.objs.size + 1, [s1.heap.objs.size + 1, s1.heap.objs.size], _, _, H1, rfl, I2, turn_E Rr a (s1.heap.objs.size + 1) s1.heap.objs.size 0 (Nat.succ_ne_self _) (Nat.ne_of_gt (Nat.lt_succ_of_lt hlt)) (Nat.ne_of_lt hlt), ⟨⟨.none, hE⟩, Rr.first _ _ _ hI⟩, fun b hb => ?_, qR⟩
  have e' : b = s1.heap.objs.size + 1 ∨ b = s1.heap.objs.size := by simpa using hb
  have hle : s1.heap.objs.size ≤ b := e'.elim (fun z => z ▸ Nat.le_succ _) fun z => z ▸ Nat.le_refl _
  exact I1.fpOk hle (I1.hok.fresh hle)
end
end FK

/-! FkF: from the text of a def to its meaning; each meaning carries that it is the machine's. -/
namespace FK
open PySem L2 PyProof.Rows LamX

structure TC where
  N : List Str
  sc : Scope
  /-- names whose cells are this block's own -/
  fn : Str → Bool
  br : Bool
  Φ : Str → Option FnE
  /-- its code object's table is known -/
  lam : Bool
  /-- slots whose lists wait while they are walked -/
  bw : List Nat
def bins : List Str := ["len", "int", "abs", "max", "min", "tuple", "list", "any", "all", "repr", "range", "enumerate", "zip", "sum", "sorted", "isinstance", "bool", "str", "set"]
structure XOk (tc : TC) (X : Cx) : Prop where
  N : X.N = tc.N
  sc : X.env.scope = tc.sc
  fn : ∀ x, tc.fn x = true → X.fn x = true
  nd : X.N.Nodup
  calm : X.calm = true
  bi : ∀ b ∈ bins, X.mg b = none
  gd : X.A.guards = some []
  un : X.A.units + 65 < cLine
  pas : PassesOwn (model X.prog X.w) X.A X.env X.xe
  kind : X.env.scope.kind = .function
structure Hyp (tc : TC) (X : Cx) (C : Ct) (W : Wish) : Prop where
  ok : XOk tc X
  K : C.K = X.K
  bs : ∀ q ∈ C.Bs, q.1 = 0 ∧ tc.br = true
  wm : WM W
  calls : ∀ g fe, tc.Φ g = some fe → ∃ (CX : CXT) (k : Nat) (f : Addr) (fd : FuncData) (ps : List Str), FnG X.prog X.w X.K X.mg X.base CX k f fd ps (spOf C.T X.K fe) ∧ Room k X.A ∧ X.mg g = some (.ref f) ∧ PySem.W.keepIn X.K (.ref f) = true ∧ Binds X.K fd ps [] ∧
    ∀ outer H s e s', CX outer H s (fun _ _ _ => False) e s' → False
  tab : tc.lam = true → Room 1 X.A ∧ ∃ c P, TabB X.base X.mg c P ∧ X.env.code = .ref c ∧ (P, X.env.qual ++ "<lambda>") ∈ C.T ∧ ∀ p ∈ C.T, p.1 = P → p.2 = X.env.qual ++ "<lambda>"
abbrev GE (tc : TC) (e : Expr) (m : M Val) : Prop := ∀ X C W, Hyp tc X C W → PE X e (rd C W m)
abbrev GO (tc : TC) (e : Expr) (o : Opd) : Prop := ∀ X C W, Hyp tc X C W → PE X e (rdO C W o)
abbrev GT (tc : TC) (e : Expr) (m : M Bool) : Prop := ∀ X C W, Hyp tc X C W → PT X e (rdT C W m)
abbrev GA (tc : TC) (es : List Expr) (os : List Opd) : Prop := ∀ X C W, Hyp tc X C W → PA X es (tOpds C W os)
abbrev GIs (tc : TC) (es : List Expr) (ms : List (Bool × M Val)) : Prop := ∀ X C W, Hyp tc X C W → PA X es (tItems C W ms)
abbrev GTs (tc : TC) (es : List Expr) (ms : List (M Val)) : Prop := ∀ X C W, Hyp tc X C W → PA X es (rdTs C W (temps ms))
abbrev GIt (tc : TC) (tg e : Expr) (it : Bool × M (List D)) : Prop := ∀ X C W, Hyp tc X C W → PI X tg e (rdI C W it.1 it.2)
abbrev GG (tc : TC) (e : Expr) (t : Tgt) : Prop := ∀ X C W, Hyp tc X C W → PG X e (rdG C W t)
structure GGs (tc : TC) (es : List Expr) (ts : List Tgt) : Prop where
  pg : ∀ X C W, Hyp tc X C W → PGs X es (rdGs C W ts)
  len : ∀ env, (assignEach es env).length = ts.length
  no : ∀ env, (assignEach es env).findIdx? (·.1) = none
abbrev GS (tc : TC) (s : Stmt) (m : MS) : Prop := ∀ X C W, Hyp tc X C W → PS X s (rdS C W m)
abbrev GSs (tc : TC) (ss : List Stmt) (m : MS) : Prop := ∀ X C W, Hyp tc X C W → PSs X ss (rdS C W m)

/-! ### looking at the text -/
def ixS : List Str → Str → Option Nat
  | [], _ => none
  | y :: ys, x => if y == x then some 0 else (ixS ys x).map (· + 1)
theorem ixS_get : ∀ {N : List Str} {x : Str} {i : Nat}, ixS N x = some i → N[i]? = some x
  | [], _, _, h => by cases h
  | y :: ys, x, i, h => by
    unfold ixS at h
    split at h
    · rename_i e
      cases h
      simpa using e
    · obtain ⟨j, h1, h2⟩ := Option.map_eq_some_iff.mp h
      subst h2
      simpa using ixS_get h1
def isVis (sc : Scope) (x : Str) : Bool := decide (sc.names.lookup x = some .local) || (decide (sc.names.lookup x = some .cell) || decide (sc.names.lookup x = some .free))
theorem isVis_of {sc : Scope} {x : Str} (h : isVis sc x = true) : Vis sc x := by
  unfold isVis at h
  rw [Bool.or_eq_true, Bool.or_eq_true, decide_eq_true_iff, decide_eq_true_iff, decide_eq_true_iff] at h
  exact h
def plain (x : Str) : Bool := !(x == ("__debug__" : Str)) && (!(x == ("__classdict__" : Str)) && !decide (x = ("__name__" : Str)))
theorem plain_of {x : Str} (h : plain x = true) : (x == ("__debug__" : Str)) = false ∧ (x == ("__classdict__" : Str)) = false ∧ x ≠ ("__name__" : Str) := by
  unfold plain at h
  rw [Bool.and_eq_true, Bool.and_eq_true, Bool.not_eq_true', Bool.not_eq_true', Bool.not_eq_true', decide_eq_false_iff_not] at h
  exact h
def slot (tc : TC) (x : Str) (p : Pos) : Option { i : Nat // ∀ X, XOk tc X → PE X (.Name x p) (tVar i) } :=
  match hi : ixS tc.N x with
  | none => none
  | some i => if h : isVis tc.sc x = true ∧ plain x = true then
      some ⟨i, fun X ok => pe_var (by rw [ok.N]; exact ixS_get hi) (by rw [ok.sc]; exact isVis_of h.1) (plain_of h.2).1 (plain_of h.2).2.1⟩
    else none
/-- a slot that may be stored -/
def okS (tc : TC) (i : Nat) : Bool := !(tc.br && decide (i = 0))
theorem okS_of {tc : TC} {i : Nat} {X : Cx} {C : Ct} {W : Wish} (h : okS tc i = true) (hy : Hyp tc X C W) : ∀ q ∈ C.Bs, q.1 ≠ i := fun q hq e => by
  obtain ⟨h0, hb⟩ := hy.bs q hq
  unfold okS at h
  rw [hb, ← e, h0] at h
  simp at h
structure Sto (tc : TC) (x : Str) (i : Nat) : Prop where
  ix : ixS tc.N x = some i
  st : decide (tc.sc.names.lookup x = some .local) = true ∨ (decide (tc.sc.names.lookup x = some .cell) = true ∧ tc.fn x = true)
  ok : okS tc i = true
def stor (tc : TC) (x : Str) : Option { i : Nat // Sto tc x i } :=
  match hi : ixS tc.N x with
  | none => none
  | some i => if h : (decide (tc.sc.names.lookup x = some .local) = true ∨ (decide (tc.sc.names.lookup x = some .cell) = true ∧ tc.fn x = true)) ∧ okS tc i = true then some ⟨i, hi, h.1, h.2⟩ else none
section
variable {tc : TC} {x : Str} {i : Nat} {X : Cx} {C : Ct} {W : Wish}
theorem Sto.at (s : Sto tc x i) (ok : XOk tc X) : X.N[i]? = some x := by rw [ok.N]; exact ixS_get s.ix
theorem Sto.loc (s : Sto tc x i) (ok : XOk tc X) : Loc X.env.scope x := by
  rw [ok.sc]
  rcases s.st with h | ⟨h, _⟩
  · exact .inl (of_decide_eq_true h)
  · exact .inr (of_decide_eq_true h)
theorem Sto.fn (s : Sto tc x i) (ok : XOk tc X) : X.fn x = true ∨ X.env.scope.names.lookup x = some .local := by
  rcases s.st with h | ⟨_, h⟩
  · exact .inr (by rw [ok.sc]; exact of_decide_eq_true h)
  · exact .inl (ok.fn x h)
end
def isGl (sc : Scope) (x : Str) : Bool := decide (sc.names.lookup x = some .globalImplicit)
theorem isGl_of {tc : TC} {X : Cx} {x : Str} (h : isGl tc.sc x = true) (ok : XOk tc X) : Gl X x := by
  show X.env.scope.names.lookup x = _
  rw [ok.sc]
  exact of_decide_eq_true h

/-- what an expression is not -/
structure NoStar (e : Expr) : Prop where
  se : ∀ es env, starEach (e :: es) env = (false, eval e env) :: starEach es env
  ae : ∀ es env, assignEach (e :: es) env = (false, assign e env) :: assignEach es env
def noStar (e : Expr) : Option (PLift (NoStar e)) := match e with
  | .Starred _ _ => none
  | .BoolOp .. | .NamedExpr .. | .BinOp .. | .UnaryOp .. | .Lambda .. | .IfExp .. | .Dict .. | .Set .. | .ListComp .. | .SetComp .. | .DictComp .. | .GeneratorExp .. | .Await .. | .Yield .. | .YieldFrom .. | .Compare .. | .Call .. | .FormattedValue .. | .JoinedStr .. | .Constant .. | .Attribute .. | .Subscript .. | .Name .. | .List .. | .Tuple .. | .Slice .. =>
    some ⟨⟨fun _ _ => rfl, fun _ _ => rfl⟩⟩
structure NoComp (e : Expr) : Prop where
  sole : ∀ tg line env, swapsWithSole [tg] e line env = pure false
  none : ∀ line env, swapsWith e none line env = pure false
  set : ∀ env x, foldedSetIterable e env x = pure x
def noComp (e : Expr) : Option (PLift (NoComp e)) := match e with
  | .ListComp .. | .SetComp .. | .DictComp .. | .Set .. => none
  | .BoolOp .. | .NamedExpr .. | .BinOp .. | .UnaryOp .. | .Lambda .. | .IfExp .. | .Dict .. | .GeneratorExp .. | .Await .. | .Yield .. | .YieldFrom .. | .Compare .. | .Call .. | .FormattedValue .. | .JoinedStr .. | .Constant .. | .Attribute .. | .Subscript .. | .Starred .. | .Name .. | .List .. | .Tuple .. | .Slice .. =>
    some ⟨⟨fun _ _ _ => rfl, fun _ _ => rfl, fun _ _ => rfl⟩⟩
theorem sub_sole (o i : Expr) (p : Pos) (e : Expr) (line : Nat) (env : Env) : swapsWithSole [.Subscript o i p] e line env = pure false := by
  cases e <;> rfl
theorem tup_sole (ts : List Expr) (k : Nat) (p : Pos) (e : Expr) (line : Nat) (env : Env) : swapsWithSole [.Tuple ts k p] e line env = pure false := by
  cases e <;> rfl
structure NoTup (e : Expr) : Prop where
  sw : ∀ ts k p env, swappedStores [.Tuple ts k p] e env = pure none
def noTup (e : Expr) : Option (PLift (NoTup e)) := match e with
  | .Tuple .. => none
  | .ListComp .. | .SetComp .. | .DictComp .. | .Set .. | .BoolOp .. | .NamedExpr .. | .BinOp .. | .UnaryOp .. | .Lambda .. | .IfExp .. | .Dict .. | .GeneratorExp .. | .Await .. | .Yield .. | .YieldFrom .. | .Compare .. | .Call .. | .FormattedValue .. | .JoinedStr .. | .Constant .. | .Attribute .. | .Subscript .. | .Starred .. | .Name .. | .List .. | .Slice .. =>
    some ⟨⟨fun _ _ _ _ => rfl⟩⟩
def plainIx (e : Expr) : Option (PLift (PlainIx e)) := match e with
  | .Slice .. => none
  | .ListComp .. | .SetComp .. | .DictComp .. | .Set .. | .BoolOp .. | .NamedExpr .. | .BinOp .. | .UnaryOp .. | .Lambda .. | .IfExp .. | .Dict .. | .GeneratorExp .. | .Await .. | .Yield .. | .YieldFrom .. | .Compare .. | .Call .. | .FormattedValue .. | .JoinedStr .. | .Constant .. | .Attribute .. | .Subscript .. | .Starred .. | .Name .. | .List .. | .Tuple .. =>
    some ⟨fun _ _ => rfl⟩
theorem noMark (b : Expr) (op : CmpOp) (h : op ≠ .In) (h2 : op ≠ .NotIn) : behindInMarks op b = false := nomark b h h2
structure PlTest (e : Expr) : Prop where
  tr : ∀ env whole, isTrue e env whole = (do let v ← whole; standAt e.pos; holding [v] (truthy v))
def plTest (e : Expr) : Option (PLift (PlTest e)) := match e with
  | .UnaryOp .. | .BoolOp .. | .IfExp .. | .Compare .. => none
  | .Call .. => some ⟨⟨fun _ _ => rfl⟩⟩
  | .Name .. => some ⟨⟨fun _ _ => rfl⟩⟩
  | .Subscript .. => some ⟨⟨fun _ _ => rfl⟩⟩
  | .Constant .. => some ⟨⟨fun _ _ => rfl⟩⟩
  | _ => none
/-- a list without stars -/
def allPlain : (es : List Expr) → Option (PLift (∀ pos env, (backTo pos (starEach es env)).any (·.1) = false))
  | [] => some ⟨fun _ _ => rfl⟩
  | e :: es => match noStar e, allPlain es with
    | some h, some t => some ⟨fun pos env => by
        rw [h.down.se]
        show (false || (backTo pos (starEach es env)).any (·.1)) = false
        rw [Bool.false_or]
        exact t.down pos env⟩
    | _, _ => none

/-! ### one step of the reading -/
structure Rec where
  e : (tc : TC) → (e : Expr) → Option { m : M Val // GE tc e m }
  t : (tc : TC) → (e : Expr) → Option { m : M Bool // GT tc e m }
  ss : (tc : TC) → (ss : List Stmt) → Option { m : MS // GSs tc ss m }
variable (r : Rec)
def trO (tc : TC) (e : Expr) : Option { o : Opd // GO tc e o } :=
  match e with
  | .Name x p => (slot tc x p).map fun i => ⟨.nm i.1, fun X C W hy => fo_nm (i.2 X hy.ok)⟩
  | e => (r.e tc e).map fun m => ⟨.ex m.1, fun X C W hy => fo_ex (m.2 X C W hy)⟩
def trOs (tc : TC) : (es : List Expr) → Option { os : List Opd // GA tc es os }
  | [] => some ⟨[], fun X C W hy => pa_nil⟩
  | e :: es => match noStar e, trO r tc e, trOs tc es with
    | some h, some o, some os => some ⟨o.1 :: os.1, fun X C W hy => pa_cons (o.2 X C W hy) (os.2 X C W hy) (h.down.se _ _)⟩
    | _, _, _ => none
def trIs (tc : TC) : (es : List Expr) → Option { ms : List (Bool × M Val) // GIs tc es ms }
  | [] => some ⟨[], fun X C W hy => pa_nil⟩
  | .Starred e p :: es => match r.e tc e, trIs tc es with
    | some m, some ms => some ⟨(true, m.1) :: ms.1, fun X C W hy => by
        have := StX.pa_star (X := X) (m.2 X C W hy) (ms.2 X C W hy) (p := p) rfl
        rw [← hy.K] at this
        exact this⟩
    | _, _ => none
  | e :: es => match noStar e, r.e tc e, trIs tc es with
    | some h, some m, some ms => some ⟨(false, m.1) :: ms.1, fun X C W hy => pa_cons (m.2 X C W hy) (ms.2 X C W hy) (h.down.se _ _)⟩
    | _, _, _ => none
theorem Hyp.wz {tc : TC} {X : Cx} {C : Ct} {W : Wish} (hy : Hyp tc X C W) (Z : Hp) : Hyp tc X (C.wz Z) W := ⟨hy.ok, hy.K, hy.bs, hy.wm, hy.calls, hy.tab⟩
def trTs (tc : TC) : (es : List Expr) → Option { ms : List (M Val) // GTs tc es ms }
  | [] => some ⟨[], fun X C W hy => fts_nil⟩
  | e :: es => match noStar e, r.e tc e, trTs tc es with
    | some h, some m, some ms => some ⟨m.1 :: ms.1, fun X C W hy => fts_cons hy.wm (fz_e fun Z => m.2 X (C.wz Z) W (hy.wz Z)) (ms.2 X C W hy) (h.down.se _ _)⟩
    | _, _, _ => none

/-! ### targets -/
mutual
def trG (tc : TC) : (e : Expr) → Option { t : Tgt // GG tc e t }
  | .Name x p => (stor tc x).map fun i => ⟨.nm i.1, fun X C W hy => fg_name hy.ok.nd (i.2.at hy.ok) (i.2.loc hy.ok) (i.2.fn hy.ok) (okS_of i.2.ok hy)⟩
  | .Tuple es k p => (trGs tc es).map fun ts => ⟨.tup ts.1, fun X C W hy => fg_tup hy.ok.calm hy.K (ts.2.pg X C W hy) (ts.2.len _) (ts.2.no _)⟩
  | _ => none
def trGs (tc : TC) : (es : List Expr) → Option { ts : List Tgt // GGs tc es ts }
  | [] => some ⟨[], fun X C W hy => fg_nil, fun _ => rfl, fun _ => rfl⟩
  | e :: es => match noStar e, trG tc e, trGs tc es with
    | some h, some t, some ts => some ⟨t.1 :: ts.1, fun X C W hy => fg_cons hy.wm (t.2 X C W hy) (ts.2.pg X C W hy) (by rw [h.down.ae]; rfl), fun env => by rw [h.down.ae, List.length_cons, List.length_cons, ts.2.len],
        fun env => by rw [h.down.ae, List.findIdx?_cons]; simp [ts.2.no env]⟩
    | _, _, _ => none
end

/-! ### what is walked -/
def trIt (tc : TC) (tg : Expr) (e : Expr) : Option { it : Bool × M (List D) // GIt tc tg e it } :=
  match e with
  | .Call (.Name "range" p) [a] [] pos =>
    match noStar a, trO r tc a with
    | some ha, some oa => if h : isGl tc.sc "range" = true then some ⟨(false, itRng [oa.1]), fun X C W hy => PI.imp (pi_range1 (isGl_of h hy.ok) (hy.ok.bi _ (by decide)) (pa_cons (oa.2 X C W hy) pa_nil (ha.down.se _ _)) (ha.down.se _ _)) fun σ H R q => rng1_go hy.wm q⟩ else none
    | _, _ => none
  | .Call (.Name "range" p) [a, b] [] pos =>
    match noStar a, noStar b, trO r tc a, trO r tc b with
    | some ha, some hb, some oa, some ob => if h : isGl tc.sc "range" = true then some ⟨(false, itRng [oa.1, ob.1]), fun X C W hy => PI.imp (pi_range2 (isGl_of h hy.ok) (hy.ok.bi _ (by decide)) (pa_cons (oa.2 X C W hy) (pa_cons (ob.2 X C W hy) pa_nil (hb.down.se _ _)) (ha.down.se _ _)) (by rw [ha.down.se, hb.down.se]; rfl) (hb.down.se _ _)) fun σ H R q => rng2_go hy.wm q⟩ else none
    | _, _, _, _ => none
  | .Call (.Name "range" p) [a, b, c] [] pos =>
    match noStar a, noStar b, noStar c, trO r tc a, trO r tc b, trO r tc c with
    | some ha, some hb, some hc, some oa, some ob, some oc => if h : isGl tc.sc "range" = true then some ⟨(false, itRng [oa.1, ob.1, oc.1]), fun X C W hy => PI.imp (pi_range3 (isGl_of h hy.ok) (hy.ok.bi _ (by decide)) (pa_cons (oa.2 X C W hy) (pa_cons (ob.2 X C W hy) (pa_cons (oc.2 X C W hy) pa_nil (hc.down.se _ _)) (hb.down.se _ _)) (ha.down.se _ _)) (by rw [ha.down.se]) (by rw [hb.down.se, hc.down.se]; rfl)) fun σ H R q => rng3_go hy.wm q⟩ else none
    | _, _, _, _, _, _ => none
  | .Call (.Name "enumerate" p) [a] [] pos =>
    match tg with
    | .Tuple elts kk tpos => match noStar a, r.e tc a with
      | some ha, some m => if h : isGl tc.sc "enumerate" = true then some ⟨(true, itEnum m.1), fun X C W hy => fi_enum hy.wm hy.K (isGl_of h hy.ok) (hy.ok.bi _ (by decide)) (m.2 X C W hy) (ha.down.se _ _)⟩ else none
      | _, _ => none
    | _ => none
  | .Call (.Name "zip" p) [a, b] [] pos =>
    match tg with
    | .Tuple elts kk tpos => match noStar a, noStar b, r.e tc a, r.e tc b with
      | some ha, some hb, some m, some n => if h : isGl tc.sc "zip" = true then some ⟨(true, itZip m.1 n.1), fun X C W hy => fi_zip hy.wm hy.K (isGl_of h hy.ok) (hy.ok.bi _ (by decide)) (m.2 X C W hy) (n.2 X C W hy) (ha.down.se _ _) (hb.down.se _ _) (by rw [hb.down.se]; rfl)⟩ else none
      | _, _, _, _ => none
    | _ => none
  | e => (r.e tc e).map fun m => ⟨(false, itSeq m.1), fun X C W hy => fi_seq hy.wm hy.K (m.2 X C W hy)⟩
end FK

/-! FkF2: expressions, tests. -/
namespace FK
open PySem L2 PyProof.Rows LamX

/-! ### a comprehension's block -/
def TC.blk (tc : TC) (scope : Scope) : TC := { tc with sc := relS scope tc.sc, fn := fun x => scope.names.lookup x == some .cell, lam := false }
theorem XOk.blk {tc : TC} {X : Cx} {scope : Scope} (ok : XOk tc X) (hk : scope.kind = .function) (s : Shared) (H : Hp) (C : Addr) (cl : List (Str × Addr)) (fp : List Addr) : XOk (tc.blk scope) (X.blk s H scope (compEnvC scope cl C X.env) fp) where
  N := ok.N
  sc := by
    show relS scope X.env.scope = relS scope tc.sc
    rw [ok.sc]
  fn := fun x h => h
  nd := ok.nd
  calm := ok.calm
  bi := ok.bi
  gd := ok.gd
  un := ok.un
  pas := PassesOwn.never
  kind := hk
def ownOf (N : List Str) (scope : Scope) : List (Str × Nat) := scope.names.filterMap fun y => if y.2 = .local ∨ y.2 = .cell then (ixS N y.1).map fun i => (y.1, i) else none
def noIn (i : Nat) (vs : List Nat) : Bool := vs.all fun v => !decide (v = i)
theorem noIn_of {i : Nat} {vs : List Nat} (h : noIn i vs = true) : i ∉ vs := fun hm => by
  have := List.all_eq_true.mp h i hm
  simp at this
def subV (us vs : List Nat) : Bool := us.all fun u => decide (u ∈ vs)
theorem subV_of {us vs : List Nat} (h : subV us vs = true) : ∀ i ∈ us, i ∈ vs := fun i hi => of_decide_eq_true (List.all_eq_true.mp h i hi)
variable (r : Rec)
/-- the tests of a comprehension: none or one -/
def trC (tc : TC) (ifs : List Expr) : Option { m : M Bool // ∀ X C, Hyp tc X C WF → PTs X ifs (rdT C WF m) } :=
  match ifs with
  | [] => some ⟨mYes, fun X C hy => ⟨fun pins s σ H Q I ⟨F, ρ, S, q⟩ => pts_nil.run pins s σ H Q I (q F H (Same.refl F) S)⟩⟩
  | [c] => (r.t tc c).map fun m => ⟨m.1, fun X C hy => pts_one (m.2 X C WF hy)⟩
  | _ => none
/-- what a comprehension walks: its iterator's reading, its meaning made of the rest -/
structure ItB (tc : TC) (tg iter : Expr) where
  wk : Bool
  m : List Nat → Tgt → M Bool → M Val → M Val
  run : ∀ X C W, Hyp tc X C W → ∃ ti : TI, PI X tg iter ti ∧ ∀ (vs : List Nat) (t : Tgt) (c : M Bool) (e : M Val) (σ : L2.St) (H : Hp) (Q : VK), (∀ q ∈ C.Bs, q.1 ∉ vs) → (∀ i ∈ t.slots, i ∈ vs) → (wk = true → t.isTup = true) → rd C W (m vs t c e) σ H Q → tLc ti (rdGZ C t) (rdTZ C c) (rdZ C WF e) vs σ H Q
def itB0 (tc : TC) (tg iter : Expr) : Option (ItB tc tg iter) := match iter with
  | .Name x p => match slot tc x p with
    | some i => if tc.bw.contains i.1 = true then some ⟨false, mCompB i.1 false, fun X C W hy => ⟨_, pi_B hy.K (i.2 X hy.ok), fun vs t c e σ H Q h1 h2 h3 q => lcB_go hy.wm h1 h2 h3 q⟩⟩ else none
    | none => none
  | .Call (.Name "enumerate" p) [.Name x p2] [] pos => match tg with
    | .Tuple elts kk tpos => match slot tc x p2 with
      | some i => if h : tc.bw.contains i.1 = true ∧ isGl tc.sc "enumerate" = true then some ⟨true, mCompB i.1 true, fun X C W hy => ⟨_, pi_BE hy.K (isGl_of h.2 hy.ok) (hy.ok.bi _ (by decide)) (i.2 X hy.ok) rfl, fun vs t c e σ H Q h1 h2 h3 q => lcB_go hy.wm h1 h2 h3 q⟩⟩ else none
      | none => none
    | _ => none
  | _ => none
def itB (tc : TC) (tg iter : Expr) : Option (ItB tc tg iter) := match itB0 tc tg iter with
  | some b => some b
  | none => (trIt r tc tg iter).map fun it => ⟨it.1.1, fun vs t c e => mComp vs it.1.2 t c e, fun X C W hy => ⟨_, it.2 X C W hy, fun vs t c e σ H Q h1 h2 h3 q => lc_go hy.wm h1 h2 h3 q⟩⟩
structure CompP where
  vs : List Nat
  t : Tgt
  c : M Bool
  e : M Val
  m : M Val
/-- what a comprehension of one for needs -/
structure CompOk (tc : TC) (elt tg iter : Expr) (ifs : List Expr) (scope : Scope) (cp : CompP) : Prop where
  run : ∀ X C W, Hyp tc X C W → ∃ (own : List (Str × Nat)) (ti : TI), own.map (·.2) = cp.vs ∧ PI X tg iter ti ∧ BlkOk X.N X.env.scope scope own ∧
    (∀ (s : Shared) (H : Hp) (L : Addr) (cl : List (Str × Addr)) (fp : List Addr), PG (X.blk s H scope (compEnvC scope cl L X.env) fp) tg (rdGZ C cp.t)) ∧
    (∀ (s : Shared) (H : Hp) (L : Addr) (cl : List (Str × Addr)) (fp : List Addr), PTs (X.blk s H scope (compEnvC scope cl L X.env) fp) ifs (rdTZ C cp.c)) ∧
    (∀ (s : Shared) (H : Hp) (L : Addr) (cl : List (Str × Addr)) (fp : List Addr), PE (X.blk s H scope (compEnvC scope cl L X.env) fp) elt (rdZ C WF cp.e)) ∧
    (∀ x, foldedSetIterable iter X.env x = pure x) ∧ ∀ (σ : L2.St) (H : Hp) (Q : VK), rd C W cp.m σ H Q → tLc ti (rdGZ C cp.t) (rdTZ C cp.c) (rdZ C WF cp.e) cp.vs σ H Q
def trComp (tc : TC) (elt tg iter : Expr) (ifs : List Expr) (scope : Scope) : Option { cp : CompP // CompOk tc elt tg iter ifs scope cp } :=
  match noComp iter, itB r tc tg iter, trG (tc.blk scope) tg, trC r (tc.blk scope) ifs, r.e (tc.blk scope) elt with
  | some hi, some it, some t, some c, some e =>
    if h : blkC tc.N tc.sc scope (ownOf tc.N scope) = true ∧ (tc.br = false ∨ noIn 0 ((ownOf tc.N scope).map (·.2)) = true) ∧ subV t.1.slots ((ownOf tc.N scope).map (·.2)) = true ∧ (it.wk = true → t.1.isTup = true) then
      some ⟨⟨(ownOf tc.N scope).map (·.2), t.1, c.1, e.1, it.m ((ownOf tc.N scope).map (·.2)) t.1 c.1 e.1⟩, ⟨fun X C W hy => by
        have bo : BlkOk tc.N tc.sc scope (ownOf tc.N scope) := blkOk_by h.1
        have hb : ∀ (s : Shared) (H : Hp) (L : Addr) (cl : List (Str × Addr)) (fp : List Addr) (Z : Hp), Hyp (tc.blk scope) (X.blk s H scope (compEnvC scope cl L X.env) fp) (C.wz Z) WF :=
          fun s H L cl fp Z => ⟨hy.ok.blk bo.kind s H L cl fp, hy.K, hy.bs, wf, hy.calls, fun z => by cases z⟩
        obtain ⟨ti, hti, hgo⟩ := it.run X C W hy
        refine ⟨ownOf tc.N scope, ti, rfl, hti, by rw [hy.ok.N, hy.ok.sc]; exact bo, fun s H L cl fp => ⟨fun pins s' σ H' v u Q I rv ⟨Z, q⟩ => (t.2 _ (C.wz Z) WF (hb s H L cl fp Z)).run pins s' σ H' v u Q I rv q⟩,
          fun s H L cl fp => ⟨fun pins s' σ H' Q I ⟨Z, q⟩ => (c.2 _ (C.wz Z) (hb s H L cl fp Z)).run pins s' σ H' Q I q⟩, fun s H L cl fp => ⟨fun pins s' σ H' Q I ⟨Z, q⟩ => (e.2 _ (C.wz Z) WF (hb s H L cl fp Z)).run pins s' σ H' Q I q⟩,
          fun x => hi.down.set _ x, fun σ H Q q => hgo _ _ _ _ σ H Q (fun q hq => ?_) (subV_of h.2.2.1) h.2.2.2 q⟩
        obtain ⟨h0, hbr⟩ := hy.bs q hq
        rcases h.2.1 with z | z
        · rw [z] at hbr; cases hbr
        · rw [h0]; exact noIn_of z⟩⟩
    else none
  | _, _, _, _, _ => none

/-! ### and, or -/
def trBV (tc : TC) (op : BoolOp) (pos : Pos) : (es : List Expr) → Option { m : M Val // GE tc (.BoolOp op es pos) m }
  | [] => none
  | [e] => (r.e tc e).map fun m => ⟨m.1, fun X C W hy => pe_one (m.2 X C W hy)⟩
  | e :: e2 :: es => match r.e tc e, trBV tc op pos (e2 :: es) with
    | some m, some n => match op, n with
      | .And, n => some ⟨mAndV m.1 n.1, fun X C W hy => fe_and hy.wm (m.2 X C W hy) (n.2 X C W hy)⟩
      | .Or, n => some ⟨mOrV m.1 n.1, fun X C W hy => fe_or hy.wm (m.2 X C W hy) (n.2 X C W hy)⟩
    | _, _ => none
def trBT (tc : TC) (op : BoolOp) (pos : Pos) : (es : List Expr) → Option { m : M Bool // ∀ X C W, Hyp tc X C W → PW X (.BoolOp op es pos) (rdT C W m) }
  | [] => none
  | [e] => match op with
    | .And => (r.t tc e).map fun m => ⟨m.1, fun X C W hy => fw_and1 (m.2 X C W hy)⟩
    | .Or => (r.t tc e).map fun m => ⟨m.1, fun X C W hy => fw_or1 (m.2 X C W hy)⟩
  | e :: e2 :: es => match r.t tc e, trBT tc op pos (e2 :: es) with
    | some m, some n => match op, n with
      | .And, n => some ⟨mAnd m.1 n.1, fun X C W hy => fw_and hy.wm (m.2 X C W hy) (n.2 X C W hy)⟩
      | .Or, n => some ⟨mOr m.1 n.1, fun X C W hy => fw_or hy.wm (m.2 X C W hy) (n.2 X C W hy)⟩
    | _, _ => none

/-! ### comparisons -/
/-- how a comparison is done: by values, by the machine -/
def okMark (op : CmpOp) (b : Expr) : Bool := match op with
  | .In => !behindInMarks .In b
  | .NotIn => !behindInMarks .NotIn b
  | _ => true
structure CmpP (op : CmpOp) (f : D → D → Option Val) : Prop where
  run : ∀ X C, C.K = X.K → X.A.units + 65 < cLine → ∃ r : R2, OpR X (compareOp op) r ∧ OpS C r f
  mark : ∀ b, okMark op b = true → behindInMarks op b = false
def cmpOf (op : CmpOp) : Option { f : D → D → Option Val // CmpP op f } :=
  match op with
  | .Lt => some ⟨oLt, fun X C _ _ => ⟨_, op_lt, os_cmp⟩, fun b _ => noMark b _ (by decide) (by decide)⟩
  | .LtE => some ⟨oLe, fun X C _ _ => ⟨_, op_le, os_cmp⟩, fun b _ => noMark b _ (by decide) (by decide)⟩
  | .Gt => some ⟨oGt, fun X C _ _ => ⟨_, op_gt, os_cmp⟩, fun b _ => noMark b _ (by decide) (by decide)⟩
  | .GtE => some ⟨oGe, fun X C _ _ => ⟨_, op_ge, os_cmp⟩, fun b _ => noMark b _ (by decide) (by decide)⟩
  | .Eq => some ⟨oEq, fun X C hK hu => ⟨_, op_eqP (by omega), os_eq hK⟩, fun b _ => noMark b _ (by decide) (by decide)⟩
  | .NotEq => some ⟨oNe, fun X C hK hu => ⟨_, op_neP (by omega), os_ne hK⟩, fun b _ => noMark b _ (by decide) (by decide)⟩
  | .Is => some ⟨oIs, fun X C _ _ => ⟨_, op_isN, os_is⟩, fun b _ => noMark b _ (by decide) (by decide)⟩
  | .In => some ⟨oIn, fun X C hK hu => ⟨_, op_inP hu, os_in hK⟩, fun b h => by simpa [okMark] using h⟩
  | .NotIn => some ⟨oNotIn, fun X C hK hu => ⟨_, op_notInP hu, os_notin hK⟩, fun b h => by simpa [okMark] using h⟩
  | .IsNot => some ⟨oIsNot, fun X C _ _ => ⟨_, op_notN, os_isnot⟩, fun b _ => noMark b _ (by decide) (by decide)⟩
structure BinP (op : Operator) (f : D → D → Option Val) : Prop where
  run : ∀ X C, C.K = X.K → ∃ r : R2, OpR X (binaryOp op) r ∧ OpS C r f
def binOf (op : Operator) : Option { f : D → D → Option Val // BinP op f } :=
  match op with
  | .Add => some ⟨oAdd, ⟨fun X C hK => ⟨_, op_addA, os_add hK⟩⟩⟩
  | .Sub => some ⟨oSub, ⟨fun X C hK => ⟨_, op_sub, os_sub⟩⟩⟩
  | .Mult => some ⟨oMul, ⟨fun X C hK => ⟨_, op_mulA, os_mul hK⟩⟩⟩
  | .Mod => some ⟨oMod, ⟨fun X C hK => ⟨_, op_mod, os_mod⟩⟩⟩
  | .FloorDiv => some ⟨oFdiv, ⟨fun X C hK => ⟨_, op_fdiv, os_fdiv⟩⟩⟩
  | .Pow => some ⟨oPow, ⟨fun X C hK => ⟨_, op_pow, os_pow⟩⟩⟩
  | _ => none

/-! ### built-ins -/
inductive BltK where
  | fn (id : String)
  | ty (T : String)
def BltK.val : BltK → Value
  | .fn id => .builtin id
  | .ty T => .type T
structure BltP (x : Str) (k : BltK) (f : List D → Option Val) : Prop where
  run : ∀ X C, C.K = X.K → X.calm = true → X.A.guards = some [] → X.A.units + 65 < cLine → ∃ r, CallR X k.val r ∧ CaS C r f
  boot : bootBuiltins x = some k.val
  mem : x ∈ bins
  pl : plain x = true
structure BltF (x : Str) where
  k : BltK
  f : List D → Option Val
  p : BltP x k f
theorem boot_any' : bootBuiltins "any" = some (.builtin "any") := by decide +kernel
theorem boot_all' : bootBuiltins "all" = some (.builtin "all") := by decide +kernel
theorem boot_abs' : bootBuiltins "abs" = some (.builtin "abs") := by decide +kernel
theorem boot_len' : bootBuiltins "len" = some (.builtin "len") := by decide +kernel
theorem boot_max' : bootBuiltins "max" = some (.builtin "max") := by decide +kernel
theorem boot_min' : bootBuiltins "min" = some (.builtin "min") := by decide +kernel
theorem boot_repr' : bootBuiltins "repr" = some (.builtin "repr") := by decide +kernel
theorem boot_sum' : bootBuiltins "sum" = some (.builtin "sum") := by decide +kernel
theorem boot_sorted' : bootBuiltins "sorted" = some (.builtin "sorted") := by decide +kernel
theorem boot_int' : bootBuiltins "int" = some (.type "int") := by decide +kernel
theorem boot_list' : bootBuiltins "list" = some (.type "list") := by decide +kernel
theorem boot_tuple' : bootBuiltins "tuple" = some (.type "tuple") := by decide +kernel
def bltOf (x : Str) : Option (BltF x) :=
  match x with
  | "len" => some ⟨.fn "len", oLen, ⟨fun X C hK hc hg hu => ⟨_, call_len_seq, ca_len hK⟩, boot_len', by decide, by decide⟩⟩
  | "abs" => some ⟨.fn "abs", oAbs, ⟨fun X C hK hc hg hu => ⟨_, call_abs, ca_abs⟩, boot_abs', by decide, by decide⟩⟩
  | "max" => some ⟨.fn "max", oMax, ⟨fun X C hK hc hg hu => ⟨_, cr_max23 hc, ca_max⟩, boot_max', by decide, by decide⟩⟩
  | "min" => some ⟨.fn "min", oMin, ⟨fun X C hK hc hg hu => ⟨_, cr_min23 hc, ca_min⟩, boot_min', by decide, by decide⟩⟩
  | "any" => some ⟨.fn "any", oAny, ⟨fun X C hK hc hg hu => ⟨_, cr_any hc, ca_any hK⟩, boot_any', by decide, by decide⟩⟩
  | "all" => some ⟨.fn "all", oAll, ⟨fun X C hK hc hg hu => ⟨_, cr_all hc, ca_all hK⟩, boot_all', by decide, by decide⟩⟩
  | "repr" => some ⟨.fn "repr", oRepr, ⟨fun X C hK hc hg hu => ⟨_, cr_reprD hg hu, ca_repr hK⟩, boot_repr', by decide, by decide⟩⟩
  | "int" => some ⟨.ty "int", oInt, ⟨fun X C hK hc hg hu => ⟨_, call_int1, ca_int⟩, boot_int', by decide, by decide⟩⟩
  | "tuple" => some ⟨.ty "tuple", oTuple, ⟨fun X C hK hc hg hu => ⟨_, call_tupleF, ca_tuple hK⟩, boot_tuple', by decide, by decide⟩⟩
  | "sum" => some ⟨.fn "sum", oSum, ⟨fun X C hK hc hg hu => ⟨_, cr_sum2 hc, ca_sum hK⟩, boot_sum', by decide, by decide⟩⟩
  | "sorted" => some ⟨.fn "sorted", oSorted, ⟨fun X C hK hc hg hu => ⟨_, cr_sortD hu, ca_sorted hK⟩, boot_sorted', by decide, by decide⟩⟩
  | "list" => some ⟨.ty "list", oList, ⟨fun X C hK hc hg hu => ⟨_, call_list_of, ca_list hK⟩, boot_list', by decide, by decide⟩⟩
  | _ => none
theorem blt_run {tc : TC} {x : Str} {e : Expr} {es : List Expr} {p pos : Pos} (b : BltF x) {as : List Opd} (ha : GA tc (e :: es) as) (hs : NoStar e) (hpl : ∀ pos env, (backTo pos (starEach es env)).any (·.1) = false) (hg : isGl tc.sc x = true) :
    GE tc (.Call (.Name x p) (e :: es) [] pos) (mFn b.f as) := fun X C W hy => by
  obtain ⟨r, h1, h2⟩ := b.p.run X C hy.K hy.ok.calm hy.ok.gd hy.ok.un
  have pl := plain_of b.p.pl
  have hboot := b.p.boot
  cases hk : b.k with
  | fn id =>
    rw [hk] at h1 hboot
    exact fe_blt hy.wm h1 h2 (isGl_of hg hy.ok) (hy.ok.bi _ b.p.mem) hboot pl.2.2 pl.1 (ha X C W hy) (hs.se _ _) (hpl _ _)
  | ty T =>
    rw [hk] at h1 hboot
    exact fe_ty hy.wm h1 h2 (isGl_of hg hy.ok) (hy.ok.bi _ b.p.mem) hboot pl.2.2 pl.1 (ha X C W hy) (hs.se _ _) (hpl _ _)

/-! ### list(range(..)), tuple(range(..)) -/
theorem rgOk_of {a b : Int} (h1 : small a = true) (h2 : small b = true) : RgOk a b := by
  have := small_iff.mp h1
  have := small_iff.mp h2
  exact ⟨by omega, by omega, by omega, by omega, by omega⟩
theorem rg1_go {X : Cx} {C : Ct} {W : Wish} (wm : WM W) {oa : Opd} {σ : L2.St} {H : Hp} {Q : Int → Int → Hp → Prop} (q : rdI C W false (itRng [oa]) σ H fun _ _ => True) (F : Hp) : True := trivial
/-- the two ends of range(a) -/
def rdRg (C : Ct) (W : Wish) (it : M (List D)) (σ : L2.St) (H : Hp) (Q : Int → Int → Hp → Prop) : Prop :=
  ∃ F ρ, Sim C F ρ σ H ∧ Pst W F σ (it ρ) fun ds ρ' => ∀ F' H' a b, Same F F' → Sim C F' ρ' σ H' → RgOk a b → DqAll C.K F' (rgV a b) ds → ds.length ≤ sizeLine → Q a b H'
theorem rg1_rd {C : Ct} {W : Wish} (wm : WM W) {oa : Opd} {σ : L2.St} {H : Hp} {Q : Int → Int → Hp → Prop} (q : rdRg C W (itRng [oa]) σ H Q) : tRg1 (rdO C W oa) σ H Q := by
  obtain ⟨F, ρ, S, q⟩ := q
  unfold itRng at q
  simp only [runs, bnd_assoc, bnd_ret] at q
  refine opd_run wm S q fun F1 H1 x o ρ1 s1 S1 g h1 => ?_
  simp only [gets, bnd_assoc, bnd_ret] at h1
  obtain ⟨d, w, h2⟩ := opd_get S1 g h1
  obtain ⟨l, e1, q⟩ := h2.lift
  unfold rngOf at e1
  split at e1
  · rename_i k hk
    split at e1
    · rename_i hs
      cases e1
      cases hk
      refine ⟨k, view_int w, q F1 H1 0 k s1 S1 (rgOk_of (by decide) hs) ?_ ?_⟩
      · have := rgV_dps (C := C) (F := F1) 0 k
        rw [show k - 0 = k by omega] at this
        exact this
      · have := small_iff.mp hs
        rw [rng_len]; exact sz_line (by omega)
    · cases e1
  · rename_i hk; cases hk
  · rename_i hk; cases hk
  · cases e1
theorem lst_rg {X : Cx} {C : Ct} {W : Wish} (wm : WM W) {it : M (List D)} {e : Expr} {p pos : Pos} {te : L2.St → Hp → (Int → Int → Hp → Prop) → Prop} (hc : X.calm = true) (hg : Gl X "list") (hm : X.mg "list" = none) (he : PRg X e te) (i : ∀ σ H Q, rdRg C W it σ H Q → te σ H Q)
    (na : starEach [e] X.env = (false, eval e X.env) :: starEach [] X.env) : PE X (.Call (.Name "list" p) [e] [] pos) (rd C W (lstRng it)) :=
  PE.imp (pe_listRg hc hg hm he na) fun σ H Q q => i σ H _ (by
    obtain ⟨F, ρ, S, q⟩ := q
    refine ⟨F, ρ, S, (Pst.bnd.mp q).imp fun ds ρ' q F' H' a b s S' ho hd hz => ⟨ho, fun z hz' => ?_⟩⟩
    obtain ⟨S2, r2⟩ := S'.ownRV hz' hd hz
    exact q F' _ _ s S2 r2)
theorem tup_rg {X : Cx} {C : Ct} {W : Wish} (wm : WM W) {it : M (List D)} {e : Expr} {p pos : Pos} {te : L2.St → Hp → (Int → Int → Hp → Prop) → Prop} (hc : X.calm = true) (hg : Gl X "tuple") (hm : X.mg "tuple" = none) (he : PRg X e te) (i : ∀ σ H Q, rdRg C W it σ H Q → te σ H Q)
    (na : starEach [e] X.env = (false, eval e X.env) :: starEach [] X.env) : PE X (.Call (.Name "tuple" p) [e] [] pos) (rd C W (tupRng it)) :=
  PE.imp (pe_tupRgF hc hg hm he na) fun σ H Q q => i σ H _ (by
    obtain ⟨F, ρ, S, q⟩ := q
    refine ⟨F, ρ, S, (Pst.bnd.mp q).imp fun ds ρ' q F' H' a b s S' ho hd hz => ⟨ho, fun z oz hz' hoz => ?_⟩⟩
    obtain ⟨S2, r2⟩ := S'.tup hz' hoz hd hz
    exact q _ _ _ (s.trans (same_new (S'.free hz'))) S2 r2)
/-- a slice's part -/
structure GP (tc : TC) (o : Option Expr) (m : Option (M Val)) : Prop where
  run : ∀ X C W, Hyp tc X C W → ∃ t, PO X o t ∧ ∀ (σ : L2.St) (H : Hp) (Q : Option Int → Hp → Prop), (∃ F ρ, Sim C F ρ σ H ∧ Pst W F σ (part m ρ) fun i ρ' => ∀ F' H', Same F F' → Sim C F' ρ' σ H' → Q i H') → t σ H Q
def trP (tc : TC) (o : Option Expr) : Option { m : Option (M Val) // GP tc o m } :=
  match o with
  | none => some ⟨none, ⟨fun X C W hy => ⟨_, po_none, fun σ H Q ⟨F, ρ, S, q⟩ => q F H (Same.refl F) S⟩⟩⟩
  | some e => (r.e tc e).map fun m => ⟨some m.1, ⟨fun X C W hy => ⟨_, po_some (m.2 X C W hy), fun σ H Q ⟨F, ρ, S, q⟩ => by
      refine ⟨F, ρ, S, (Pst.bnd.mp q).imp fun v ρ1 q F1 H1 x s1 S1 rv => ?_⟩
      cases v with
      | ow ds => exact False.elim q
      | od kvs => exact False.elim q
      | fz d =>
        cases d with
        | int i => cases rv; exact ⟨i, rfl, q F1 H1 s1 S1⟩
        | none => exact False.elim q
        | bool _ => exact False.elim q
        | str _ => exact False.elim q
        | list _ => exact False.elim q
        | tuple _ => exact False.elim q
        | dict _ => exact False.elim q⟩⟩⟩
theorem sl_run {tc : TC} {a : Expr} {lo hi : Option Expr} {p2 pos : Pos} {oa : Opd} {ml mh : Option (M Val)} (ha : GO tc a oa) (hl : GP tc lo ml) (hh : GP tc hi mh) : GE tc (.Subscript a (.Slice lo hi none p2) pos) (mSl oa ml mh) := fun X C W hy => by
  obtain ⟨tl, l1, l2⟩ := hl.run X C W hy
  obtain ⟨th, h1, h2⟩ := hh.run X C W hy
  refine PE.imp (pe_slice sl_All (ha X C W hy) l1 h1) fun σ H Q q => ?_
  obtain ⟨F, ρ, S, q⟩ := q
  refine opd_run hy.wm S q fun F1 H1 x o ρ1 s1 S1 g q => ?_
  refine l2 _ _ _ ⟨F1, ρ1, S1, (Pst.bnd.mp q).imp fun l ρ2 q F2 H2 s2 S2 => ?_⟩
  refine h2 _ _ _ ⟨F2, ρ2, S2, (Pst.bnd.mp (Pst.mono hy.wm s2 q)).imp fun u ρ3 q F3 H3 s3 S3 => ?_⟩
  obtain ⟨d, w, q⟩ := opd_get S3 (g.mono (s2.trans s3)) (Pst.mono hy.wm s3 q)
  obtain ⟨v, e1, q⟩ := q.lift
  exact sl_go hy.K S3 w e1 fun F' H' z s S' r' => q F' H' z (((s1.trans s2).trans s3).trans s) S' r'
end FK

/-! FkF3: the whole reading. -/
namespace FK
open PySem L2 PyProof.Rows LamX
variable (r : Rec)

/-! ### calls of the module's own defs -/
def trCall (tc : TC) (x : Str) (p : Pos) (es : List Expr) (pos : Pos) : Option { m : M Val // GE tc (.Call (.Name x p) es [] pos) m } :=
  match hΦ : tc.Φ x with
  | none => none
  | some fe =>
    if h : isGl tc.sc x = true ∧ plain x = true then
      match es with
      | [] => if hbr : fe.br = false then some ⟨mCall fe [], fun X C W hy => by
          obtain ⟨CX, k, f, fd, ps, F, hr, hm, hk, hb, hCX⟩ := hy.calls x fe hΦ
          exact fe_call0 hy.wm hy.K hbr F hy.ok.gd hr (isGl_of h.1 hy.ok) hm hk hb hCX (plain_of h.2).1⟩ else none
      | e :: es => match noStar e, allPlain es with
        | some hs, some hp =>
          if hbr : fe.br = false then
            match trIs r tc (e :: es) with
            | some as => some ⟨mCall fe as.1, fun X C W hy => by
                obtain ⟨CX, k, f, fd, ps, F, hr, hm, hk, hb, hCX⟩ := hy.calls x fe hΦ
                exact fe_call hy.wm hy.K hbr F hy.ok.gd hr (isGl_of h.1 hy.ok) hm hk hb hCX (as.2 X C W hy) (plain_of h.2).1 (hs.down.se _ _) (hp.down _ _)⟩
            | none => none
          else match trO r tc e, trIs r tc es with
            | some ⟨.nm i, ho⟩, some as => some ⟨mCallR fe i as.1, fun X C W hy => by
                obtain ⟨CX, k, f, fd, ps, F, hr, hm, hk, hb, hCX⟩ := hy.calls x fe hΦ
                exact fe_callR hy.wm hy.K (by simpa using hbr) F hy.ok.gd hr (isGl_of h.1 hy.ok) hm hk hb hCX (ho X C W hy) (as.2 X C W hy) (plain_of h.2).1 (hs.down.se _ _) (hp.down _ _)⟩
            | _, _ => none
        | _, _ => none
    else none
/-- list(range(a)), tuple(range(a)) -/
def trRg (tc : TC) (e : Expr) : Option { m : M Val // GE tc e m } :=
  match e with
  | .Call (.Name "list" p) [.Call (.Name "range" p2) [a] [] pos2] [] pos =>
    match noStar a, trO r tc a with
    | some ha, some oa => if h : isGl tc.sc "list" = true ∧ isGl tc.sc "range" = true then
        some ⟨lstRng (itRng [oa.1]), fun X C W hy => lst_rg hy.wm hy.ok.calm (isGl_of h.1 hy.ok) (hy.ok.bi _ (by decide)) (prg_1 (isGl_of h.2 hy.ok) (hy.ok.bi _ (by decide)) (oa.2 X C W hy) (ha.down.se _ _)) (fun σ H Q q => rg1_rd hy.wm q) rfl⟩ else none
    | _, _ => none
  | .Call (.Name "tuple" p) [.Call (.Name "range" p2) [a] [] pos2] [] pos =>
    match noStar a, trO r tc a with
    | some ha, some oa => if h : isGl tc.sc "tuple" = true ∧ isGl tc.sc "range" = true then
        some ⟨tupRng (itRng [oa.1]), fun X C W hy => tup_rg hy.wm hy.ok.calm (isGl_of h.1 hy.ok) (hy.ok.bi _ (by decide)) (prg_1 (isGl_of h.2 hy.ok) (hy.ok.bi _ (by decide)) (oa.2 X C W hy) (ha.down.se _ _)) (fun σ H Q q => rg1_rd hy.wm q) rfl⟩ else none
    | _, _ => none
  | _ => none
/-- sorted(range(n), key=lambda x: (r[x], x)) -/
structure LamP (params : Arguments) (x : Str) : Prop where
  df : ∀ env, defaultsOf params env = ([], [])
  bd : ∀ (q : Str) (scope : Scope) (cl : List (Str × Addr)) (pm cv ctv : Value) (b : Expr) (v : Value), bindArgs (PySem.W.kla_fn "<lambda>" q params b scope cl pm cv ctv) ⟨[v], []⟩ = pure [(x, v)]
def lamB (params : Arguments) (x : Str) : Option (PLift (LamP params x)) := match params with
  | ⟨[], [⟨a, none, p⟩], none, [], [], none, []⟩ => if h : a = "_law_thing" ∧ x = "_law_thing" then some ⟨⟨fun _ => rfl, fun _ _ _ _ _ _ _ _ => by obtain ⟨rfl, rfl⟩ := h; rfl⟩⟩ else none
  | _ => none
def trSort (tc : TC) (e : Expr) : Option { m : M Val // GE tc e m } :=
  match e with
  | .Call (.Name "sorted" p) [.Call (.Name "set" p2) [e] [] q] [] pos =>
    match noStar e, trO r tc e with
    | some hs, some o => if h : isGl tc.sc "sorted" = true ∧ isGl tc.sc "set" = true then
        some ⟨mUn oSortSet o.1, fun X C W hy => fe_sortSet hy.wm hy.K hy.ok.calm hy.ok.un (isGl_of h.1 hy.ok) (hy.ok.bi _ (by decide)) (isGl_of h.2 hy.ok) (hy.ok.bi _ (by decide)) (o.2 X C W hy) (hs.down.se _ _)⟩ else none
    | _, _ => none
  | .Call (.Name "sorted" p) [.Call (.Name "range" pr) [e] [] prp] [⟨some kn, .Lambda params (.Tuple [.Subscript (.Name r2 p1) (.Name x p2) p3, .Name x2 p4] kk p5) scope lpos, kpos⟩] pos =>
    match noStar e, trO r tc e, hi : ixS tc.N r2, lamB params x with
    | some hs, some o, some i, some hb => if h : tc.lam = true ∧ isGl tc.sc "sorted" = true ∧ isGl tc.sc "range" = true ∧ isVis tc.sc r2 = true ∧ lamKB tc.sc scope r2 x = true ∧ x2 = x ∧ kn = "key" then
        some ⟨mSortRow i o.1, fun X C W hy => by
          obtain ⟨h1, h2, h3, h4, h5, h6, h7⟩ := h
          obtain ⟨hr, c, P, TB, hc, hT, hu⟩ := hy.tab h1
          rw [h6, h7]
          exact fe_sortRow hy.wm hy.K (isGl_of h2 hy.ok) (hy.ok.bi _ (by decide)) (isGl_of h3 hy.ok) (hy.ok.bi _ (by decide)) (o.2 X C W hy) TB hc hT hu hr (hb.down.df _) (by rw [hy.ok.sc]; exact lamK_by h5) (by rw [hy.ok.N]; exact ixS_get hi) (by rw [hy.ok.sc]; exact isVis_of h4) (fun q cl pm cv ctv b v => hb.down.bd q scope cl pm cv ctv b v) (hs.down.se _ _)⟩ else none
    | _, _, _, _ => none
  | _ => none
def mNotB (m : M Val) : M Val := bnd (mBl m) fun b => ret (.fz (.bool (!b)))
theorem fe_notB {X : Cx} {C : Ct} {W : Wish} {a : Expr} {pos : Pos} {m : M Val} (wm : WM W) (ha : PE X a (rd C W m)) : PE X (.UnaryOp .Not a pos) (rd C W (mNotB m)) := PE.imp (pe_not ha) fun σ H Q q => by
  refine bl_go q fun F F' H' b ρ' s S' q => ⟨b, rfl, ?_⟩
  exact q F' H' _ s S' (.bl _)

def plBase (o : Expr) : Option (PLift (∀ name env whole, attributeBase o name env whole = whole)) := match o with
  | .Name .. => some ⟨fun _ _ _ => rfl⟩
  | .Subscript .. => some ⟨fun _ _ _ => rfl⟩
  | _ => none
def stepE0 (tc : TC) (e : Expr) : Option { m : M Val // GE tc e m } :=
  match e with
  | .Constant (.int i) k p => some ⟨mC (.int i), fun X C W hy => fe_int⟩
  | .Constant (.bool b) k p => some ⟨mC (.bool b), fun X C W hy => fe_bl⟩
  | .Constant .none k p => some ⟨mC .none, fun X C W hy => fe_non⟩
  | .Constant (.str x) k p => some ⟨mC (.str x), fun X C W hy => fe_str⟩
  | .Name x p => (slot tc x p).map fun i => ⟨mV i.1, fun X C W hy => fe_v (i.2 X hy.ok)⟩
  | .BinOp a op b p => match binOf op, trO r tc a, trO r tc b with
    | some f, some oa, some ob => some ⟨mBin f.1 oa.1 ob.1, fun X C W hy => by
        obtain ⟨q, h1, h2⟩ := f.2.run X C hy.K
        exact fe_bin hy.wm h1 h2 (oa.2 X C W hy) (ob.2 X C W hy)⟩
    | _, _, _ => none
  | .UnaryOp .USub a p => (trO r tc a).map fun oa => ⟨mUn oNeg oa.1, fun X C W hy => fe_un hy.wm un_neg us_neg (oa.2 X C W hy)⟩
  | .UnaryOp .Not a p => (r.e tc a).map fun m => ⟨mNotB m.1, fun X C W hy => fe_notB hy.wm (m.2 X C W hy)⟩
  | .IfExp c a b p => match r.t tc c, r.e tc a, r.e tc b with
    | some mc, some ma, some mb => some ⟨mIf mc.1 ma.1 mb.1, fun X C W hy => fe_if hy.wm (mc.2 X C W hy) (ma.2 X C W hy) (mb.2 X C W hy)⟩
    | _, _, _ => none
  | .Compare a [op] [b] p => match cmpOf op, trO r tc a, trO r tc b with
    | some f, some oa, some ob => if hmk : okMark op b = true then some ⟨mBin f.1 oa.1 ob.1, fun X C W hy => by
        obtain ⟨q, h1, h2⟩ := f.2.run X C hy.K hy.ok.un
        exact fe_cmp hy.wm h1 h2 (oa.2 X C W hy) (ob.2 X C W hy) (f.2.mark b hmk)⟩ else none
    | _, _, _ => none
  | .Compare a [op, op'] [b, c] p => match cmpOf op, cmpOf op', r.e tc a, r.e tc b, r.e tc c with
    | some f, some g, some ma, some mb, some mc => if hmk : lastMarks [op, op'] [b, c] = false then some ⟨mChain f.1 g.1 ma.1 mb.1 mc.1, fun X C W hy => by
        obtain ⟨q, h1, h2⟩ := f.2.run X C hy.K hy.ok.un
        obtain ⟨q', h1', h2'⟩ := g.2.run X C hy.K hy.ok.un
        exact fe_chain hy.wm h1 h2 h1' h2' (ma.2 X C W hy) (mb.2 X C W hy) (mc.2 X C W hy) hmk⟩ else none
    | _, _, _, _, _ => none
  | .Call (.Attribute o "count" apos) [e] [] cpos => match plBase o, noStar e, trO r tc o, trO r tc e with
    | some hb, some hs, some oo, some oe => if h : (apos.endLine == cpos.line) = true then some ⟨mMeth oCount oo.1 oe.1, fun X C W hy => by
        have se := hs.down.se [] X.env
        exact PE.imp (pe_m2 (ma_cntL hy.ok.un) (ma_cntT hy.ok.un) (oo.2 X C W hy) (pa_cons (oe.2 X C W hy) pa_nil se) (hb.down _ _ _) (by rw [se]; rfl) h se rfl) fun σ H Q q => m1_go hy.wm hy.K (m1_cnt hy.K) q⟩ else none
    | _, _, _, _ => none
  | .Call (.Attribute o "index" apos) [e] [] cpos => match plBase o, noStar e, trO r tc o, trO r tc e with
    | some hb, some hs, some oo, some oe => if h : (apos.endLine == cpos.line) = true then some ⟨mMeth oIndex oo.1 oe.1, fun X C W hy => by
        have se := hs.down.se [] X.env
        exact PE.imp (pe_m2 ma_idxL ma_idxT (oo.2 X C W hy) (pa_cons (oe.2 X C W hy) pa_nil se) (hb.down _ _ _) (by rw [se]; rfl) h se rfl) fun σ H Q q => m1_go hy.wm hy.K (m1_idx hy.K) q⟩ else none
    | _, _, _, _ => none
  | .Call (.Attribute (.Name x p1) "pop" apos) [] [] cpos => match slot tc x p1 with
    | some i => if h : (apos.endLine == cpos.line) = true then some ⟨mPop i.1, fun X C W hy =>
        PE.imp (pe_bm0 PySem.F.plainAttrs_list PySem.F.slot_list_pop PySem.F.type_list_pop mt_pop (i.2 X hy.ok) rfl h) fun σ H Q q => pop_go hy.wm hy.K q⟩ else none
    | none => none
  | .Call (.Attribute (.Name x p1) "pop" apos) [e] [] cpos => match slot tc x p1, noStar e, r.e tc e with
    | some i, some hs, some m => if h : (apos.endLine == cpos.line) = true then some ⟨mPopAt i.1 m.1, fun X C W hy => by
        have se := hs.down.se [] X.env
        exact PE.imp (pe_bm PySem.F.plainAttrs_list PySem.F.slot_list_pop PySem.F.type_list_pop mt_popAt (i.2 X hy.ok) (pa_cons (m.2 X C W hy) pa_nil se) rfl (by rw [se]; rfl) h se rfl) fun σ H Q q => popAt_go hy.wm hy.K q⟩ else none
    | _, _, _ => none
  | .Call (.Name "isinstance" p) [e, .Name x p2] [] pos => match noStar e, trO r tc e, htT : tyOf x with
    | some hs, some o, some T => if h : isGl tc.sc "isinstance" = true ∧ isGl tc.sc x = true ∧ bins.contains x = true then some ⟨mUn (oInst T) o.1, fun X C W hy =>
        fe_inst hy.wm hy.K htT (isGl_of h.1 hy.ok) (hy.ok.bi _ (by decide)) (isGl_of h.2.1 hy.ok) (hy.ok.bi _ (by simpa using h.2.2)) (o.2 X C W hy) (hs.down.se _ _)⟩ else none
    | _, _, _ => none
  | .BoolOp op es p => trBV r tc op p es
  | .Tuple es k p => (trIs r tc es).map fun ms => ⟨mTup ms.1, fun X C W hy => fe_tup hy.wm (ms.2 X C W hy)⟩
  | .List es p => (trIs r tc es).map fun ms => ⟨mLst ms.1, fun X C W hy => fe_lst hy.wm (ms.2 X C W hy)⟩
  | .Subscript a (.Slice lo hi none p2) p => match trO r tc a, trP r tc lo, trP r tc hi with
    | some oa, some ml, some mh => some ⟨mSl oa.1 ml.1 mh.1, sl_run oa.2 ml.2 mh.2⟩
    | _, _, _ => none
  | .Subscript a b p => match plainIx b, trO r tc a, trO r tc b with
    | some hp, some oa, some ob => some ⟨mBin oIx oa.1 ob.1, fun X C W hy => fe_ix hy.wm ix_A (os_ix hy.K) (oa.2 X C W hy) (ob.2 X C W hy) hp.down⟩
    | _, _, _ => none
  | .Call (.Name x p) es [] pos => match bltOf x, es with
    | some b, e :: es => match noStar e, allPlain es, trOs r tc (e :: es) with
      | some hs, some hp, some as => if hg : isGl tc.sc x = true then some ⟨mFn b.f as.1, blt_run b as.2 hs.down hp.down hg⟩ else none
      | _, _, _ => none
    | _, es => trCall r tc x p es pos
  | .ListComp elt [⟨tg, iter, ifs, 0⟩] scope pos => (trComp r tc elt tg iter ifs scope).map fun cp => ⟨cp.1.m, fun X C W hy => by
      obtain ⟨own, ti, hv, hi, ok, hg, ht, he, hs, hgo⟩ := cp.2.run X C W hy
      refine PE.imp (pe_lc hy.ok.calm hy.ok.nd hi ok hg ht he hs) fun σ H Q q => ?_
      rw [hv]
      exact hgo _ _ _ q⟩
  | _ => none
def stepE (tc : TC) (e : Expr) : Option { m : M Val // GE tc e m } := match trRg r tc e with
  | some m => some m
  | none => match trSort r tc e with
    | some m => some m
    | none => stepE0 r tc e
def stepT (tc : TC) (e : Expr) : Option { m : M Bool // GT tc e m } :=
  match e with
  | .UnaryOp .Not a p => (r.t tc a).map fun m => ⟨mNot m.1, fun X C W hy => ft_not (m.2 X C W hy)⟩
  | .BoolOp op es p => (trBT r tc op p es).map fun m => ⟨m.1, fun X C W hy => (m.2 X C W hy).pt⟩
  | .Compare a [op] [b] p => match cmpOf op, trO r tc a, trO r tc b with
    | some f, some oa, some ob => if hmk : okMark op b = true then some ⟨asT (mBin f.1 oa.1 ob.1), fun X C W hy => by
        obtain ⟨q, h1, h2⟩ := f.2.run X C hy.K hy.ok.un
        exact ft_cmp hy.wm h1 h2 (oa.2 X C W hy) (ob.2 X C W hy) (f.2.mark b hmk)⟩ else none
    | _, _, _ => none
  | .Compare a [op, op'] [b, c] p => match cmpOf op, cmpOf op', r.e tc a, r.e tc b, r.e tc c with
    | some f, some g, some ma, some mb, some mc => if hmk : lastMarks [op, op'] [b, c] = false then some ⟨asT (mChain f.1 g.1 ma.1 mb.1 mc.1), fun X C W hy => by
        obtain ⟨q, h1, h2⟩ := f.2.run X C hy.K hy.ok.un
        obtain ⟨q', h1', h2'⟩ := g.2.run X C hy.K hy.ok.un
        exact ft_chain hy.wm h1 h2 h1' h2' (ma.2 X C W hy) (mb.2 X C W hy) (mc.2 X C W hy) hmk⟩ else none
    | _, _, _, _, _ => none
  | e => match plTest e, trO r tc e with
    | some h, some o => some ⟨mT o.1, fun X C W hy => ft_tr hy.wm hy.K (o.2 X C W hy) (h.down.tr _)⟩
    | _, _ => none

/-! ### statements -/
def swNm (sc : Scope) (ts : List Expr) : List Str := ts.filterMap fun
        | .Name id pos => if sc.names.lookup id == some .local && pos.line == (ts.head?.map (·.pos.line)).getD 0 then some id else none
        | _ => none
def swpOf (ts vs : List Expr) (sc : Scope) : Option (Option (List Str)) :=
  if !(ts.length == 2 || ts.length == 3) || vs.length != ts.length then some none
  else if (vs.any fun | .Starred .. => true | _ => false) = true then some none
  else if ((swNm sc ts).length != ts.length || (swNm sc ts).eraseDups.length != (swNm sc ts).length) = true then some none
  else if (vs.all (foldedForSure 8)) = true then some none
  else if (vs.all (constantsAlone 8)) = true then none
  else some (some (swNm sc ts))
theorem swp_ok {ts vs : List Expr} {env : Env} {k k2 : Nat} {p p2 : Pos} {o : Option (List Str)} (hk : env.scope.kind = .function) (h : swpOf ts vs env.scope = some o) : swappedStores [.Tuple ts k p] (.Tuple vs k2 p2) env = pure o := by
  have hb : env.blockKind = .function := by unfold Env.blockKind; rw [hk]; rfl
  unfold swpOf at h
  unfold swappedStores
  simp only [hb]
  by_cases c1 : (!(ts.length == 2 || ts.length == 3) || vs.length != ts.length) = true
  · rw [if_pos c1] at h
    cases h
    rw [if_pos (by rw [c1]; rfl)]
  · rw [if_neg c1] at h
    rw [if_neg (by
      intro z
      rw [Bool.or_eq_true] at z
      rcases z with z | z
      · exact c1 z
      · exact absurd z (by decide))]
    by_cases c2 : (vs.any fun | .Starred .. => true | _ => false) = true
    · rw [if_pos c2] at h
      cases h
      exact if_pos c2
    · rw [if_neg c2] at h
      refine (if_neg c2).trans ?_
      by_cases c3 : ((swNm env.scope ts).length != ts.length || (swNm env.scope ts).eraseDups.length != (swNm env.scope ts).length) = true
      · rw [if_pos c3] at h
        cases h
        exact if_pos c3
      · rw [if_neg c3] at h
        refine (if_neg c3).trans ?_
        by_cases c4 : (vs.all (foldedForSure 8)) = true
        · rw [if_pos c4] at h
          cases h
          exact if_pos c4
        · rw [if_neg c4] at h
          refine (if_neg c4).trans ?_
          by_cases c5 : (vs.all (constantsAlone 8)) = true
          · rw [if_pos c5] at h
            cases h
          · rw [if_neg c5] at h
            cases h
            exact if_neg c5
/-- the targets are names -/
structure NamesOk (tc : TC) (ts : List Expr) (is : List Nat) : Prop where
  pg : ∀ X, XOk tc X → PGs X ts (gNames is)
  len : ts.length = is.length
  ae : ∀ env, (assignEach ts env).length = is.length
  no : ∀ env, (assignEach ts env).findIdx? (·.1) = none
  ok : ∀ X C W, Hyp tc X C W → ∀ i ∈ is, ∀ q ∈ C.Bs, q.1 ≠ i
def trNames (tc : TC) : (ts : List Expr) → Option { is : List Nat // NamesOk tc ts is }
  | [] => some ⟨[], fun X ok => pgs_nil, rfl, fun _ => rfl, fun _ => rfl, fun X C W hy i hi => by cases hi⟩
  | .Name x p :: ts => match stor tc x, trNames tc ts with
    | some i, some is => some ⟨i.1 :: is.1, fun X ok => pgs_cons (pg_name ok.nd (i.2.at ok) (i.2.loc ok) (i.2.fn ok)) (is.2.pg X ok) rfl, by rw [List.length_cons, List.length_cons, is.2.len], fun env => by
        show (assignEach ts env).length + 1 = _
        rw [is.2.ae]; rfl, fun env => by
        show ((false, assign (.Name x p) env) :: assignEach ts env).findIdx? (·.1) = none
        rw [List.findIdx?_cons]
        simp [is.2.no env], fun X C W hy j hj => by
        rcases List.mem_cons.mp hj with e | hj
        · rw [e]; exact okS_of i.2.ok hy
        · exact is.2.ok X C W hy j hj⟩
    | _, _ => none
  | _ => none
/-- a, b = x, y -/
def trPar (tc : TC) (ts : List Expr) (k : Nat) (p : Pos) (vs : List Expr) (k2 : Nat) (p2 pos : Pos) : Option { m : MS // GS tc (.Assign [.Tuple ts k p] (.Tuple vs k2 p2) pos) m } :=
  match trNames tc ts, trTs r tc vs with
  | some is, some ms =>
    match hsw : swpOf ts vs tc.sc with
    | some none => if hl : is.1.length ≤ 1000 then some ⟨sPar is.1 ms.1, fun X C W hy => by
        have hs := swp_ok (k := k) (k2 := k2) (p := p) (p2 := p2) hy.ok.kind (by rw [hy.ok.sc]; exact hsw)
        refine PS.imp (ps_asg (pe_tup (ms.2 X C W hy)) (pg_tup hy.ok.calm (is.2.pg X hy.ok) (is.2.ae _) (is.2.no _)) rfl hs rfl) fun D σ H q => ?_
        exact parT_go hy.wm hy.K rfl hl (is.2.ok X C W hy) q⟩ else none
    | some (some names) => match ts, vs, names with
      | [.Name x px, .Name y py], [a, b], [x', y'] => match stor tc x, stor tc y with
        | some i, some j => if h : x' = x ∧ y' = y ∧ decide (tc.sc.names.lookup x = some .local) = true ∧ decide (tc.sc.names.lookup y = some .local) = true ∧ ¬ i.1 = j.1 then
            some ⟨sPar [i.1, j.1] ms.1, fun X C W hy => by
              have hs := swp_ok (k := k) (k2 := k2) (p := p) (p2 := p2) hy.ok.kind (by rw [hy.ok.sc]; exact hsw)
              rw [h.1, h.2.1] at hs
              refine PS.imp (ps_par hy.ok.calm hy.ok.nd (i.2.at hy.ok) (j.2.at hy.ok) h.2.2.2.2 (by rw [hy.ok.sc]; exact of_decide_eq_true h.2.2.1) (by rw [hy.ok.sc]; exact of_decide_eq_true h.2.2.2.1) (ms.2 X C W hy) hs rfl) fun D σ H q => ?_
              refine par2_go hy.wm (fun l hl => ?_) q
              rcases List.mem_cons.mp hl with e | hl
              · rw [e]; exact okS_of i.2.ok hy
              · rw [List.mem_singleton.mp hl]; exact okS_of j.2.ok hy⟩ else none
        | _, _ => none
      | [.Name x px, .Name y py, .Name z pz], [a, b, c], [x', y', z'] => match stor tc x, stor tc y, stor tc z with
        | some i, some j, some l => if h : (x' = x ∧ y' = y ∧ z' = z) ∧ (decide (tc.sc.names.lookup x = some .local) = true ∧ decide (tc.sc.names.lookup y = some .local) = true ∧ decide (tc.sc.names.lookup z = some .local) = true) ∧ ¬ i.1 = j.1 ∧ ¬ i.1 = l.1 ∧ ¬ j.1 = l.1 then
            some ⟨sPar [i.1, j.1, l.1] ms.1, fun X C W hy => by
              have hs := swp_ok (k := k) (k2 := k2) (p := p) (p2 := p2) hy.ok.kind (by rw [hy.ok.sc]; exact hsw)
              rw [h.1.1, h.1.2.1, h.1.2.2] at hs
              refine PS.imp (ps_par3 hy.ok.calm hy.ok.nd (i.2.at hy.ok) (j.2.at hy.ok) (l.2.at hy.ok) h.2.2.1 h.2.2.2.1 h.2.2.2.2 (by rw [hy.ok.sc]; exact of_decide_eq_true h.2.1.1) (by rw [hy.ok.sc]; exact of_decide_eq_true h.2.1.2.1) (by rw [hy.ok.sc]; exact of_decide_eq_true h.2.1.2.2) (ms.2 X C W hy) hs rfl) fun D σ H q => ?_
              refine par3_go hy.wm (fun l' hl => ?_) q
              rcases List.mem_cons.mp hl with e | hl
              · rw [e]; exact okS_of i.2.ok hy
              · rcases List.mem_cons.mp hl with e | hl
                · rw [e]; exact okS_of j.2.ok hy
                · rw [List.mem_singleton.mp hl]; exact okS_of l.2.ok hy⟩ else none
        | _, _, _ => none
      | _, _, _ => none
    | none => none
  | _, _ => none
/-- x = [.. for ..] -/
def trSetLc (tc : TC) (x : Str) (p : Pos) (elt tg iter : Expr) (ifs : List Expr) (scope : Scope) (cpos pos : Pos) : Option { m : MS // GS tc (.Assign [.Name x p] (.ListComp elt [⟨tg, iter, ifs, 0⟩] scope cpos) pos) m } :=
  match stor tc x, trComp r tc elt tg iter ifs scope with
  | some i, some cp =>
    if h : decide (tc.sc.names.lookup x = some .local) = true ∧ (p.line == cpos.line) = true ∧ (scope.names.any fun (n, k) => n == x && (k == .local || k == .cell)) = false then
      some ⟨sSet i.1 cp.1.m, fun X C W hy => by
        obtain ⟨own, ti, hv, hi, ok, hg, ht, he, hs, hgo⟩ := cp.2.run X C W hy
        have hl : X.env.scope.names.lookup x = some .local := by rw [hy.ok.sc]; exact of_decide_eq_true h.1
        refine PS.imp (ps_setLc hy.ok.calm hy.ok.nd (i.2.at hy.ok) hl (sw_true hy.ok.kind hl h.2.1 h.2.2) hi ok hg ht he hs) fun D σ H q => ?_
        rw [hv]
        have q2 := set_go (okS_of i.2.ok hy) q
        exact hgo _ _ _ q2⟩
    else if h2 : ((tc.sc.names.lookup x == some .local) && (p.line == cpos.line) && !(scope.names.any fun (n, k) => n == x && (k == .local || k == .cell))) = false then
      some ⟨sSet i.1 cp.1.m, fun X C W hy => by
        obtain ⟨own, ti, hv, hi, ok, hg, ht, he, hs, hgo⟩ := cp.2.run X C W hy
        have he' : PE X (.ListComp elt [⟨tg, iter, ifs, 0⟩] scope cpos) (rd C W cp.1.m) := PE.imp (pe_lc hy.ok.calm hy.ok.nd hi ok hg ht he hs) fun σ H Q q => by
          rw [hv]
          exact hgo _ _ _ q
        refine fs_set hy.ok.nd (i.2.at hy.ok) (i.2.loc hy.ok) (i.2.fn hy.ok) (okS_of i.2.ok hy) he' ?_
        have hbk : X.env.blockKind = .function := by unfold Env.blockKind; rw [hy.ok.kind]; rfl
        have hko : (X.env.kindOf x == some NameKind.local) = (tc.sc.names.lookup x == some .local) := by
          show (X.env.scope.names.lookup x == some NameKind.local) = _
          rw [hy.ok.sc]
        show swapsWith (.ListComp elt [⟨tg, iter, ifs, 0⟩] scope cpos) (some (.Name x p)) pos.line X.env = pure false
        unfold swapsWith
        simp only [hbk, hko, Expr.pos]
        have e0 : (ScopeKind.function == ScopeKind.function) = true := rfl
        rw [e0, Bool.true_and, h2]⟩
    else none
  | _, _ => none
/-- lists changed by their methods -/
def trMeth (tc : TC) (st : Stmt) : Option { m : MS // GS tc st m } :=
  match st with
  | .Expr (.Call (.Attribute (.Name x p1) "append" apos) [e] [] cpos) pos =>
    match slot tc x p1, noStar e, r.e tc e with
    | some i, some hs, some m => if h : (apos.endLine == cpos.line) = true then some ⟨sApp i.1 m.1, fun X C W hy => by
        have se := hs.down.se [] X.env
        refine PS.imp (ps_expr (pe_bm PySem.F.plainAttrs_list PySem.F.slot_list_append PySem.F.type_list_append mt_append (i.2 X hy.ok) (pa_cons (m.2 X C W hy) pa_nil se) rfl (by rw [se]; rfl) h se rfl) rfl) fun D σ H q => ?_
        exact app_go hy.wm hy.K q⟩ else none
    | _, _, _ => none
  | .Expr (.Call (.Attribute (.Name x p1) "insert" apos) [k, e] [] cpos) pos =>
    match slot tc x p1, noStar k, noStar e, r.e tc k, r.e tc e with
    | some i, some hk, some hs, some mk, some m => if h : (apos.endLine == cpos.line) = true then some ⟨sIns i.1 mk.1 m.1, fun X C W hy => by
        have se := hs.down.se [] X.env
        have sk := hk.down.se [e] X.env
        refine PS.imp (ps_expr (pe_bm PySem.F.plainAttrs_list PySem.F.slot_list_insert PySem.F.type_list_insert mt_insert (i.2 X hy.ok) (pa_cons (mk.2 X C W hy) (pa_cons (m.2 X C W hy) pa_nil se) sk) rfl (by rw [sk, se]; rfl) h sk (by rw [se]; rfl)) rfl) fun D σ H q => ?_
        exact ins_go hy.wm hy.K q⟩ else none
    | _, _, _, _, _ => none
  | .Expr (.Call (.Attribute (.Name x p1) "extend" apos) [e] [] cpos) pos =>
    match slot tc x p1, noStar e, r.e tc e with
    | some i, some hs, some m => if h : (apos.endLine == cpos.line) = true then some ⟨sExt i.1 m.1, fun X C W hy => by
        have se := hs.down.se [] X.env
        refine PS.imp (ps_expr (pe_bm PySem.F.plainAttrs_list PySem.F.slot_list_extend PySem.F.type_list_extend mt_ext2 (i.2 X hy.ok) (pa_cons (m.2 X C W hy) pa_nil se) rfl (by rw [se]; rfl) h se rfl) rfl) fun D σ H q => ?_
        exact ext_go hy.wm hy.K q⟩ else none
    | _, _, _ => none
  | _ => none
structure IpP (op : Operator) (f : Int → Int → Int) : Prop where
  run : ∀ X, PIp X op (ipI f)
def ipOf (op : Operator) : Option { f : Int → Int → Int // IpP op f } :=
  match op with
  | .Add => some ⟨fun i j => i + j, ⟨fun X => ip_add⟩⟩
  | .Sub => some ⟨fun i j => i - j, ⟨fun X => ip_sub⟩⟩
  | _ => none
def augP (i : Expr) : Option (PLift (∀ ov iv new, augStore i ov iv new = (do holding [new, ov, iv] (setItem ov iv new); release [new, ov, iv] []; pure .next))) := match i with
  | .Slice .. => none
  | .ListComp .. | .SetComp .. | .DictComp .. | .Set .. | .BoolOp .. | .NamedExpr .. | .BinOp .. | .UnaryOp .. | .Lambda .. | .IfExp .. | .Dict .. | .GeneratorExp .. | .Await .. | .Yield .. | .YieldFrom .. | .Compare .. | .Call .. | .FormattedValue .. | .JoinedStr .. | .Constant .. | .Attribute .. | .Subscript .. | .Starred .. | .Name .. | .List .. | .Tuple .. =>
    some ⟨fun _ _ _ => rfl⟩
def asgP (o i : Expr) (pos : Pos) : Option (PLift (∀ env v, assign (.Subscript o i pos) env v = (do
      let ov ← holding [v] (eval o env)
      let iv ← holding [v, ov] (eval i env)
      standAt pos
      holding [v, ov, iv] (setItem ov iv v)
      release [v, ov, iv] []))) := match i with
  | .Slice .. => none
  | .ListComp .. | .SetComp .. | .DictComp .. | .Set .. | .BoolOp .. | .NamedExpr .. | .BinOp .. | .UnaryOp .. | .Lambda .. | .IfExp .. | .Dict .. | .GeneratorExp .. | .Await .. | .Yield .. | .YieldFrom .. | .Compare .. | .Call .. | .FormattedValue .. | .JoinedStr .. | .Constant .. | .Attribute .. | .Subscript .. | .Starred .. | .Name .. | .List .. | .Tuple .. =>
    some ⟨fun _ _ => rfl⟩
/-- names and items as targets -/
structure GGx (tc : TC) (es : List Expr) (ts : List TgX) : Prop where
  pg : ∀ X C W, Hyp tc X C W → PGs X es (rdGxs C W ts)
  len : ∀ env, (assignEach es env).length = ts.length
  no : ∀ env, (assignEach es env).findIdx? (·.1) = none
def trGx1 (tc : TC) (e : Expr) : Option { t : TgX // ∀ X C W, Hyp tc X C W → PG X e (rdGx C W t) } :=
  match e with
  | .Subscript (.Name x p1) i p2 => match slot tc x p1, r.e tc i, asgP (.Name x p1) i p2 with
    | some s, some mi, some ha => some ⟨.ix s.1 mi.1, fun X C W hy => PG.imp (pg_sub (s.2 X hy.ok) (mi.2 X C W hy) set_list (ha.down _)) fun v σ H Q q => gpx_ix hy.wm q⟩
    | _, _, _ => none
  | e => (trG tc e).map fun t => ⟨.tg t.1, fun X C W hy => fgx_t (t.2 X C W hy)⟩
def trGx (tc : TC) : (es : List Expr) → Option { ts : List TgX // GGx tc es ts }
  | [] => some ⟨[], fun X C W hy => fgx_nil, fun _ => rfl, fun _ => rfl⟩
  | e :: es => match noStar e, trGx1 r tc e, trGx tc es with
    | some h, some t, some ts => some ⟨t.1 :: ts.1, fun X C W hy => fgx_cons hy.wm (t.2 X C W hy) (ts.2.pg X C W hy) (by rw [h.down.ae]; rfl), fun env => by rw [h.down.ae, List.length_cons, List.length_cons, ts.2.len],
        fun env => by rw [h.down.ae, List.findIdx?_cons]; simp [ts.2.no env]⟩
    | _, _, _ => none
def trParX (tc : TC) (ts : List Expr) (k : Nat) (p : Pos) (vs : List Expr) (k2 : Nat) (p2 pos : Pos) : Option { m : MS // GS tc (.Assign [.Tuple ts k p] (.Tuple vs k2 p2) pos) m } :=
  match trGx r tc ts, r.e tc (.Tuple vs k2 p2) with
  | some is, some m =>
    match hsw : swpOf ts vs tc.sc with
    | some none => some ⟨sPutX is.1 m.1, fun X C W hy => fs_putX hy.wm hy.ok.calm hy.K (is.2.pg X C W hy) (is.2.len _) (is.2.no _) (m.2 X C W hy) rfl (swp_ok hy.ok.kind (by rw [hy.ok.sc]; exact hsw))⟩
    | _ => none
  | _, _ => none
def mostTurns : Nat := 1000000
def stepS (tc : TC) (st : Stmt) : Option { m : MS // GS tc st m } :=
  match st with
  | .Pass p => some ⟨sNx, fun X C W hy => fs_pass⟩
  | .Break p => some ⟨ret .bk, fun X C W hy => fs_break⟩
  | .Continue p => some ⟨ret .ct, fun X C W hy => fs_continue⟩
  | .Return none p => some ⟨sRet (mC .none), fun X C W hy => fs_retN⟩
  | .Return (some (.Name x p1)) p => match slot tc x p1 with
    | some i => if h : okS tc i.1 = true then some ⟨sRet (mMove i.1), fun X C W hy => fs_move (i.2 X hy.ok) (okS_of h hy)⟩ else some ⟨sRet (mV i.1), fun X C W hy => fs_ret (fe_v (i.2 X hy.ok))⟩
    | none => none
  | .Return (some e) p => (r.e tc e).map fun m => ⟨sRet m.1, fun X C W hy => fs_ret (m.2 X C W hy)⟩
  | .Expr (.Constant (.str x) j p1) p => some ⟨sNx, fun X C W hy => fs_doc⟩
  | .Expr e p => match noComp e, r.e tc e with
    | some h, some m => some ⟨sDrop m.1, fun X C W hy => fs_drop (m.2 X C W hy) (h.down.none _ _)⟩
    | _, _ => none
  | .If c a b p => match r.t tc c, r.ss tc a, r.ss tc b with
    | some mc, some ma, some mb => some ⟨sIf mc.1 ma.1 mb.1, fun X C W hy => fs_if hy.wm (mc.2 X C W hy) (ma.2 X C W hy) (mb.2 X C W hy)⟩
    | _, _, _ => none
  | .While c b [] p => match r.t tc c, r.ss tc b with
    | some mc, some mb => some ⟨whileL mc.1 mb.1 mostTurns, fun X C W hy => PS.imp (ps_while hy.ok.pas (mc.2 X C W hy) (mb.2 X C W hy)) fun D σ H q => while_go hy.wm q⟩
    | _, _ => none
  | .For tg it b [] p => match noComp it, trIt r tc tg it, trG tc tg, r.ss tc b with
    | some h, some mi, some t, some mb => if hwk : mi.1.1 = true → t.1.isTup = true then some ⟨sFor mi.1.2 t.1 mb.1, fun X C W hy => PS.imp (ps_for hy.ok.pas hy.ok.calm (mi.2 X C W hy) (t.2 X C W hy) (mb.2 X C W hy) (h.down.set _)) fun D σ H q => for_go hy.wm hwk q⟩ else none
    | _, _, _, _ => none
  | .Assign [.Name x p1] (.ListComp elt [⟨tg, iter, ifs, 0⟩] scope cpos) p => trSetLc r tc x p1 elt tg iter ifs scope cpos p
  | .Assign [.Name x p1] e p => match stor tc x, noComp e, r.e tc e with
    | some i, some h, some m => some ⟨sSet i.1 m.1, fun X C W hy => fs_set hy.ok.nd (i.2.at hy.ok) (i.2.loc hy.ok) (i.2.fn hy.ok) (okS_of i.2.ok hy) (m.2 X C W hy) (h.down.sole _ _ _)⟩
    | _, _, _ => none
  | .Assign [.Tuple ts k p1] (.Tuple vs k2 p2) p => match trPar r tc ts k p1 vs k2 p2 p with
    | some m => some m
    | none => trParX r tc ts k p1 vs k2 p2 p
  | .Assign [.Tuple ts k p1] e p => match noTup e, trG tc (.Tuple ts k p1), r.e tc e with
    | some h2, some t, some m => some ⟨sPut t.1 m.1, fun X C W hy => fs_put hy.wm (t.2 X C W hy) (m.2 X C W hy) (tup_sole _ _ _ _ _ _) (h2.down.sw _ _ _ _) rfl⟩
    | _, _, _ => none
  | .Assign [.Subscript (.Name x p1) i p2] e p => match slot tc x p1, r.e tc i, r.e tc e, asgP (.Name x p1) i p2 with
    | some s, some mi, some m, some ha => some ⟨sItem s.1 mi.1 m.1, fun X C W hy => PS.imp (ps_asg (m.2 X C W hy) (pg_sub (s.2 X hy.ok) (mi.2 X C W hy) set_list (ha.down _)) (sub_sole _ _ _ _ _ _) rfl rfl) fun D σ H q => item_go hy.wm q⟩
    | _, _, _, _ => none
  | .AugAssign (.Name x p1) op e p => match stor tc x, ipOf op, r.e tc e with
    | some i, some f, some m => some ⟨sAug i.1 f.1 m.1, fun X C W hy => PS.imp (ps_aug hy.ok.nd (i.2.at hy.ok) (i.2.loc hy.ok) (m.2 X C W hy) (f.2.run X) (i.2.fn hy.ok)) fun D σ H q => aug_go hy.wm (okS_of i.2.ok hy) q⟩
    | _, _, _ => none
  | .AugAssign (.Subscript (.Name x p1) i p2) op e p => match slot tc x p1, ipOf op, r.e tc i, r.e tc e, augP i with
    | some s, some f, some mi, some m, some ha => some ⟨sAugI s.1 f.1 mi.1 m.1, fun X C W hy => PS.imp (ps_augS (s.2 X hy.ok) (mi.2 X C W hy) get_listL (m.2 X C W hy) (f.2.run X) set_list ha.down) fun D σ H q => augI_go hy.wm hy.K q⟩
    | _, _, _, _, _ => none
  | _ => none
def trS (tc : TC) (st : Stmt) : Option { m : MS // GS tc st m } := match trMeth r tc st with
  | some m => some m
  | none => stepS r tc st
def stepSs (tc : TC) : (ss : List Stmt) → Option { m : MS // GSs tc ss m }
  | [] => some ⟨sNx, fun X C W hy => fss_nil⟩
  | [s] => (trS r tc s).map fun m => ⟨m.1, fun X C W hy => fss_one (m.2 X C W hy)⟩
  | s :: s2 :: ss => match trS r tc s, stepSs tc (s2 :: ss) with
    | some m, some n => some ⟨sSeq m.1 n.1, fun X C W hy => fss_cons hy.wm (m.2 X C W hy) (n.2 X C W hy)⟩
    | _, _ => none
def reading : Nat → Rec
  | 0 => ⟨fun _ _ => none, fun _ _ => none, fun _ _ => none⟩
  | n + 1 => ⟨stepE (reading n), stepT (reading n), stepSs (reading n)⟩
end FK

/-! FkG: a program's defs, one upon the other; the law's end. -/
namespace FK
open PySem L2 PyProof.Rows LamX

structure DefT where
  st : Stmt
  x : Str
  N : List Str
  ps : List Str
  br : Bool
  lam : Bool
  bw : List Nat
def DefT.tc (d : DefT) (Φ : Str → Option FnE) : TC := ⟨d.N, defScope d.st, fun _ => true, d.br, Φ, d.lam, d.bw⟩
def DefT.d (d : DefT) : He.DefD := ⟨(d.x, none), d.x, d.x, defArgs d.st, defBody d.st, defScope d.st, [], []⟩
structure DefT.Ok (d : DefT) : Prop where
  sc : FnScope d.N d.ps (defScope d.st)
  bind : ∀ (kV doc pm : Value) (an : Option Addr) (cdv ct : Value) (us : List Value), us.length = d.ps.length →
    bindArgs (PySem.W.fnOf d.x d.x (defArgs d.st) (defBody d.st) (defScope d.st) .none kV doc pm an cdv ct) ⟨us, []⟩ = pure (d.ps.zip us)
def feOf (d : DefT) (m : MS) : FnE := { f := fnOf d.N.length m, np := d.ps.length, br := d.br }
def look : List (Str × FnE) → Str → Option FnE
  | [], _ => none
  | (y, fe) :: L, x => if y == x then some fe else look L x
theorem look_mem : ∀ {L : List (Str × FnE)} {x : Str} {fe : FnE}, look L x = some fe → (x, fe) ∈ L
  | [], _, _, h => by cases h
  | (y, fe') :: L, x, fe, h => by
    unfold look at h
    split at h
    · rename_i e
      cases h
      have e' : y = x := eq_of_beq e
      rw [e']
      exact List.mem_cons_self ..
    · exact List.mem_cons_of_mem _ (look_mem h)
section
variable {P : Program} {w : World} {T : List (Addr × Str)} {K : PySem.W.Frag} {mg : Str → Option Value} {base : Heap}
structure Known (P : Program) (w : World) (T : List (Addr × Str)) (K : PySem.W.Frag) (mg : Str → Option Value) (base : Heap) (k : Nat) (x : Str) (fe : FnE) : Prop where
  out : ∃ (f : Addr) (fd : FuncData) (ps : List Str), FnG P w K mg base CX0 k f fd ps (spOf T K fe) ∧ mg x = some (.ref f) ∧ PySem.W.keepIn K (.ref f) = true ∧ Binds K fd ps []
theorem Known.up {j k : Nat} {x : Str} {fe : FnE} (h : Known P w T K mg base j x fe) (e : j ≤ k) : Known P w T K mg base k x fe := by
  obtain ⟨f, fd, ps, h1, h2⟩ := h.out
  exact ⟨f, fd, ps, h1.up e, h2⟩
theorem fun_of {d : DefT} {f : Addr} {fd : FuncData} (F : FunD K d.x d.x (defArgs d.st) (defBody d.st) (defScope d.st) [] [] f fd) : Fun K d.x d.x d.st f fd := by
  obtain ⟨oc, od, dV, kV, doc, pm, an, cdv, ct, osl, rfl, lk, hcd, hD, _⟩ := F.ex
  rcases hD with ⟨_, rfl⟩ | ⟨e, _⟩
  · exact ⟨⟨oc, od, kV, doc, pm, an, cdv, ct, osl, rfl, lk, hcd⟩, F.kp⟩
  · exact absurd rfl e
/-- the name that the def's lambdas bear -/
def lamQ (x : Str) : Str := x ++ ".<locals>." ++ "<lambda>"
/-- the def's table is known -/
def TabOk (T : List (Addr × Str)) (mg : Str → Option Value) (base : Heap) (d : DefT) (fd : FuncData) : Prop :=
  d.lam = true → ∃ c P, TabB base mg c P ∧ fd.code = .ref c ∧ (P, lamQ d.x) ∈ T ∧ ∀ p ∈ T, p.1 = P → p.2 = lamQ d.x
theorem fnG_def {d : DefT} {L : List (Str × FnE)} {m : MS} {n k : Nat} {f : Addr} {fd : FuncData} (hd : d.Ok) (hm : ((reading n).ss (d.tc (look L)) (defBody d.st)).map (·.1) = some m) (hL : ∀ q ∈ L, Known P w T K mg base k q.1 q.2)
    (F : FunD K d.x d.x (defArgs d.st) (defBody d.st) (defScope d.st) [] [] f fd) (hT : TabOk T mg base d fd) (bi : ∀ b ∈ bins, mg b = none) : FnG P w K mg base CX0 (k + 2) f fd d.ps (spOf T K (feOf d m)) := by
  obtain ⟨⟨m', hm'⟩, e1, e2⟩ := Option.map_eq_some_iff.mp hm
  have e3 : m' = m := e2
  subst e3
  refine fnG_of (m := m') (fun_of F) hd.sc rfl rfl fun cdv A outer s H C hcd hg hh hr hK hCT hB => ?_
  refine hm' _ C WF ⟨⟨rfl, rfl, fun _ _ => rfl, hd.sc.nd, rfl, bi, hg, ?_, PassesOwn.never, hd.sc.kind⟩, hK, hB, wf, fun g fe hgf => ?_, fun hl => ?_⟩
  · have := hr.un
    show (A.deeper _).units + 65 < cLine
    omega
  · obtain ⟨f', fd', ps', h1, h2, h3, h4⟩ := (hL _ (look_mem hgf)).out
    rw [hCT]
    exact ⟨CX0, k, f', fd', ps', h1, hr.mono (by omega), h2, h3, h4, fun _ _ _ _ _ z => z⟩
  · obtain ⟨c, P, h1, h2, h3, h4⟩ := hT hl
    refine ⟨hr.mono (by omega), c, P, h1, ?_, ?_⟩
    · show cdv = .ref c
      rw [← hcd]; exact h2
    · rw [hCT]
      exact ⟨h3, h4⟩
/-- the defs in their order, each read over those ahead of it -/
def Reads (n : Nat) : List (Str × FnE) → List (DefT × MS) → Prop
  | _, [] => True
  | L, (d, m) :: ds => ((reading n).ss (d.tc (look L)) (defBody d.st)).map (·.1) = some m ∧ d.Ok ∧ Reads n ((d.x, feOf d m) :: L) ds
def DefsIn (T : List (Addr × Str)) (K : PySem.W.Frag) (mg : Str → Option Value) (base : Heap) (ds : List (DefT × MS)) : Prop :=
  ∀ q ∈ ds, ∃ f fd, FunD K q.1.x q.1.x (defArgs q.1.st) (defBody q.1.st) (defScope q.1.st) [] [] f fd ∧ mg q.1.x = some (.ref f) ∧ TabOk T mg base q.1 fd
theorem known_all {n : Nat} (bi : ∀ b ∈ bins, mg b = none) : ∀ {ds : List (DefT × MS)} {L : List (Str × FnE)} {k : Nat}, Reads n L ds → (∀ q ∈ L, Known P w T K mg base k q.1 q.2) → DefsIn T K mg base ds → ∀ q ∈ ds.map (fun q => (q.1.x, feOf q.1 q.2)) ++ L, Known P w T K mg base (k + 2 * ds.length) q.1 q.2
  | [], L, k, _, hL, _, q, hq => hL q (by simpa using hq)
  | (d, m) :: ds, L, k, h, hL, hD, q, hq => by
    obtain ⟨h1, h2, h3⟩ := h
    obtain ⟨f, fd, F, hmg, hT⟩ := hD (d, m) (List.mem_cons_self ..)
    have G := fnG_def h2 h1 hL F hT bi
    have Kn : Known P w T K mg base (k + 2) d.x (feOf d m) := ⟨f, fd, d.ps, G, hmg, F.kp, F.bindsN h2.bind⟩
    have r := known_all bi (k := k + 2) h3 (fun q hq => by
      rcases List.mem_cons.mp hq with e | hq
      · rw [e]; exact Kn
      · exact (hL q hq).up (by omega)) (fun q hq => hD q (List.mem_cons_of_mem _ hq)) q (by
        simp only [List.map_cons, List.cons_append, List.mem_cons, List.mem_append] at hq ⊢
        rcases hq with e | hq | hq
        · exact .inr (.inl e)
        · exact .inl hq
        · exact .inr (.inr hq))
    have e : k + 2 * ((d, m) :: ds).length = k + 2 + 2 * ds.length := by
      rw [List.length_cons]; omega
    rw [e]
    exact r
end

/-! ### the law's end -/
theorem dps_int {K : PySem.W.Frag} {F : Hp} : ∀ ns : List Int, DqAll K F (ns.map V.int) (ns.map PyData.int)
  | [] => .nil
  | n :: ns => .cons (.int n) (dps_int ns)
/-- the law's def asked at the script -/
theorem law_at {P : Program} {w : World} {T : List (Addr × Str)} {K : PySem.W.Frag} {mg mb : Str → Option Value} {k : Nat} {fa a : Addr} {fd : FuncData} {x : Str} {fe : FnE} {s₁ : Shared} {vs : List Value} {ns : List Int}
    (inK : K.In s₁.heap) (nsG : s₁.heap.Ns mainGlobals mg) (nsB : s₁.heap.Ns builtinsNs mb) (boot : ∀ y : Str, y ≠ "__name__" → mb y = bootBuiltins y) (free : s₁.heap.NoLimit) (noGen : s₁.gens = #[])
    (hT : ∀ z ∈ T, s₁.heap.get? z.1 = some { cls := .none, data := .fields #[] }) (nT : ∀ z ∈ T, K.lookup z.1 = none) (cd : ∀ z ∈ T, ∃ c, PySem.W.CodeHd s₁.heap c z.1)
    (hbm : ∃ (bm : Addr) (ob : Obj), mg "__builtins__" = some (.ref bm) ∧ bm ≠ builtinsNs ∧ s₁.heap.get? bm = some ob ∧ ob.cls = .type "module" ∧ ob.dict = some builtinsNs ∧ ob.data = .plain)
    (script : s₁.heap.get? a = some { cls := .type "list", data := .seq vs.toArray }) (are : IntsAre vs ns) (few : ns.length ≤ sizeLine) (room : Room k callerA)
    (F : ∀ base : Heap, K.In base → base.Ns mainGlobals mg → (∀ z ∈ T, base.BuiltinsAt mg z.1 ∧ mainGlobals ≠ z.1) → FnG P w K mg base CX0 k fa fd [x] (spOf T K fe)) (bound : ∀ (s : Shared) (u : Value), BindsTo s fd ⟨[u], []⟩ [(x, u)])
    (one : fe.np = 1) (nobr : fe.br = false) (yes : ∃ o, fe.f [.fz (.list (ns.map .int))] = .ok (.fz (.bool true)) o) :
    codeAny (model P w) callerA (.call (.ref fa) ⟨[.ref a], []⟩) (fun r s' => r = .ok (.ret (.bool true)) ∧ OldK s₁.heap s'.heap ∧ s'.os = s₁.os ∧ AllBare s'.gens) s₁ := by
  have rvals := vals_ints are
  have long := are.length
  let so : Obj := { cls := .type "list", data := .seq vs.toArray }
  have isT : ∀ b : Addr, b ∈ T.map (·.1) → s₁.heap.get? b = some { cls := .none, data := .fields #[] } := fun b hb => by
    obtain ⟨p, hp, e⟩ := List.mem_map.mp hb
    rw [← e]
    exact hT p hp
  have aT : a ∉ T.map (·.1) := fun z => by
    have q := isT a z
    rw [script] at q
    have z' : Data.seq vs.toArray _ = Data.fields #[] := congrArg Obj.data (Option.some.inj q)
    cases z'
  let G : Hp := fun b => match K.lookup a with
    | some _ => none
    | none => if b = a then some (.frz so (.lst (ns.map V.int))) else none
  let H : Hp := fun b => if b ∈ T.map (·.1) then some (.tbl #[]) else G b
  have tells : ∀ b u, G b = some u → K.lookup a = none ∧ b = a ∧ u = .frz so (.lst (ns.map V.int)) := by
    intro b u h
    show K.lookup a = none ∧ _
    have h' : (match K.lookup a with
      | some _ => none
      | none => if b = a then some (.frz so (.lst (ns.map V.int))) else none : Option HO) = some u := h
    cases q : K.lookup a with
    | some o =>
      rw [q] at h'
      exact absurd h' (by simp)
    | none =>
      rw [q] at h'
      by_cases e : b = a
      · simp only [e, if_true] at h'
        exact ⟨rfl, e, (Option.some.inj h').symm⟩
      · simp only [e, if_false] at h'
        exact absurd h' (by simp)
  have HT : ∀ b, b ∈ T.map (·.1) → H b = some (.tbl #[]) := fun b hb => if_pos hb
  have HG : ∀ b, b ∉ T.map (·.1) → H b = G b := fun b hb => if_neg hb
  have tells2 : ∀ b u, H b = some u → (b ∈ T.map (·.1) ∧ u = .tbl #[]) ∨ (K.lookup a = none ∧ b = a ∧ u = .frz so (.lst (ns.map V.int))) := fun b u h => by
    by_cases hb : b ∈ T.map (·.1)
    · rw [HT b hb] at h
      exact .inl ⟨hb, (Option.some.inj h).symm⟩
    · rw [HG b hb] at h
      exact .inr (tells b u h)
  have GH : Same G H := fun b u e => by
    obtain ⟨_, rfl, _⟩ := tells b u e
    rw [HG _ aT]
    exact e
  have seq : SqL K G a (ns.map V.int) := by
    cases q : K.lookup a with
    | some o =>
      have e := inK a o q
      rw [script] at e
      cases e
      exact .inr ⟨_, vs.toArray, _, q, rfl, rfl, rfl, by rw [List.size_toArray, long]; exact few, by simpa using rvals⟩
    | none =>
      refine .inl (.inr ⟨so, ?_⟩)
      show (match K.lookup a with
        | some _ => none
        | none => if a = a then some (.frz so (.lst (ns.map V.int))) else none : Option HO) = _
      rw [q]
      simp
  have ok : HOk P w H s₁.heap := by
    intro b u h
    rcases tells2 b u h with ⟨h1, rfl⟩ | ⟨_, rfl, rfl⟩
    · exact isT b h1
    · exact ⟨script, by rw [List.length_map]; exact few, vs, _, rvals, script⟩
  have kept : ∀ {b : Addr} {o : Obj}, s₁.heap.get? b = some o → H b = none → (hidT s₁.heap H).get? b = some o := fun e n => hidT_get e n
  have noD : ∀ {b : Addr} {o : Obj}, s₁.heap.get? b = some o → (∀ vs n, o.data ≠ .seq vs n) → o.data ≠ .fields #[] → H b = none := fun {b o} e h1 h2 => by
    cases q : H b with
    | none => rfl
    | some u =>
      rcases tells2 b u q with ⟨h3, _⟩ | ⟨_, rfl, _⟩
      · rw [isT b h3] at e
        cases e
        exact (h2 rfl).elim
      · rw [script] at e
        cases e
        exact (h1 _ _ rfl).elim
  have dicts : ∀ {b : Addr} {m : Str → Option Value}, s₁.heap.Ns b m → (hidT s₁.heap H).Ns b m := by
    rintro b m ⟨o, es, ep, e, d, r⟩
    refine ⟨o, es, ep, kept e (noD e (fun vs n z => ?_) fun z => ?_), d, r⟩
    · rw [d] at z
      cases z
    · rw [d] at z
      cases z
  have inK' : K.In (hidT s₁.heap H) := by
    intro b o e
    refine kept (inK b o e) ?_
    cases q : H b with
    | none => rfl
    | some u =>
      rcases tells2 b u q with ⟨h3, _⟩ | ⟨z, rfl, _⟩
      · obtain ⟨p, hp, ep⟩ := List.mem_map.mp h3
        rw [← ep, nT p hp] at e
        cases e
      · rw [z] at e
        cases e
  have TB : ∀ z ∈ T, (hidT s₁.heap H).BuiltinsAt mg z.1 ∧ mainGlobals ≠ z.1 := fun p hp => by
    have hTp := hT p hp
    refine ⟨?_, fun z => ?_⟩
    · obtain ⟨bm, ob, b1, b2, b3, b4, b5, b6⟩ := hbm
      have nG : bm ≠ mainGlobals := fun q => by
        obtain ⟨o, es, ep, e, hd, _⟩ := nsG
        rw [q, e] at b3
        cases b3
        rw [hd] at b6
        cases b6
      have nP : bm ≠ p.1 := fun q => by
        rw [q, hTp] at b3
        cases b3
        cases b6
      refine ⟨bm, ob, b1, b2, nG, nP, kept b3 (noD b3 (fun vs n z => ?_) fun z => ?_), b4, b5, b6⟩
      · rw [b6] at z
        cases z
      · rw [b6] at z
        cases z
    · obtain ⟨o, es, ep, e, hd, _⟩ := nsG
      rw [z, hTp] at e
      cases e
      cases hd
  have e0 : Env0 P w K mg (hidT s₁.heap H) callerA [] s₁ H :=
    { frames := rfl
      mod := { kin := inK', glob := dicts nsG, blt := ⟨mb, dicts nsB, boot⟩, nolimit := by obtain ⟨mc, h1, h2⟩ := free; exact ⟨mc, dicts h1, h2⟩ }
      bs := fun b o e => of_hidT e
      bsz := Nat.le_of_eq (hidT_size _ _)
      funs := trivial
      frf := fun b hb => absurd (show b ∈ ([] : List Addr) from hb) (by simp)
      hok := ok
      bare := .of_eq noGen }
  obtain ⟨o, yes⟩ := yes
  have sp : spOf T K fe [.ref a] H (fun v _ => v = .bl true) fun _ _ _ => False := by
    refine ⟨by rw [one]; rfl, G, none, [.list (ns.map .int)], none, by rw [nobr]; rfl, GH, hsz_of ok, fun z hz => ⟨#[], HT _ (List.mem_map_of_mem hz), trivial, fun pos cv h => by cases h⟩, fun b u e => ?_, .cons (.lst seq (dps_int ns)) .nil, ?_⟩
    · obtain ⟨_, _, rfl⟩ := tells b u e
      intro ps z
      cases z
    · have e : fe.f (argsV none [.list (ns.map .int)]) = .ok (.fz (.bool true)) o := yes
      rw [e]
      intro F' H' x _ _ h
      have h' : Dq K F' x (.bool true) := h
      cases h'
      rfl
  refine codeAny_mono ((F _ inK' (dicts nsG) TB).run callerA [] s₁ H ⟨[.ref a], []⟩ [.ref a] [.ref a] _ _ rfl room e0 (bound s₁ (.ref a)) (.cons rfl .nil) sp) fun r s' h => ?_
  match r, h with
  | .ok (.ret u), h =>
    obtain ⟨v, H', os, bare, un, ok', rel, q⟩ := h
    have q' : v = .bl true := q
    subst q'
    have hu : u = Value.bool true := rel
    subst hu
    have key : ∀ b o, b ∉ T.map (·.1) → s₁.heap.get? b = some o → s'.heap.get? b = some o := fun b o nb e => by
      cases q : H b with
      | none => exact un.keep b o e q (fun z => absurd (show b ∈ ([] : List Addr) from z) (by simp)) (by simp)
      | some u =>
        rcases tells2 b u q with ⟨h3, _⟩ | ⟨_, rfl, rfl⟩
        · exact absurd h3 nb
        · obtain ⟨z, _⟩ := ok' b _ (un.frzs b _ _ q)
          rw [script] at e
          cases e
          exact z
    have grown : ∀ p ∈ T, ∃ more : Array Value, s'.heap.get? p.1 = some { cls := .none, data := .fields more } := fun p hp => by
      obtain ⟨more, z⟩ := un.tbls p.1 #[] (HT _ (List.mem_map_of_mem hp))
      exact ⟨_, ok' p.1 _ z⟩
    refine ⟨rfl, ⟨fun b o e => ?_, fun b o e => ?_⟩, os, bare⟩
    · by_cases hb : b ∈ T.map (·.1)
      · obtain ⟨p, hp, ep⟩ := List.mem_map.mp hb
        obtain ⟨more, hm⟩ := grown p hp
        obtain ⟨c, C⟩ := cd p hp
        rw [← ep] at e ⊢
        rw [hT p hp] at e
        cases e
        exact .inr (.inl ⟨(C.tab (hT p hp)).isCodeTable, rfl, #[], more, rfl, by rw [Array.empty_append]; exact hm⟩)
      · exact .inl (key b o hb e)
    · by_cases hb : b ∈ T.map (·.1)
      · obtain ⟨p, hp, ep⟩ := List.mem_map.mp hb
        obtain ⟨more, hm⟩ := grown p hp
        rw [← ep]
        exact ⟨_, hm⟩
      · exact ⟨o, key b o hb e⟩
  | .ok .next, h => exact False.elim h
  | .ok .brk, h => exact False.elim h
  | .ok .cont, h => exact False.elim h
  | .error e, h => exact False.elim h

/-- what the head has to tell of the defs -/
def faOf (ds : List (DefT × MS)) : List He.Fa := ds.map (fun q => .glo q.1.x) ++ bins.map .free
def fnL (ds : List (DefT × MS)) : List He.DefD := ds.map fun q => q.1.d
def tfL (ds : List (DefT × MS)) : List He.Defn := (ds.filter fun q => q.1.lam).map fun q => (q.1.x, none)
/-- the tables differ -/
def exL (ds : List (DefT × MS)) (K : PySem.W.Frag) : Bool := decide ((tfL ds).map fun p => (He.cT K p).2).Nodup
def tabL (ds : List (DefT × MS)) (K : PySem.W.Frag) : List (Addr × Str) := (tfL ds).map fun p => ((He.cT K p).2, lamQ p.1)
theorem nodup_same {α β : Type} {f : α → β} : ∀ {l : List α}, (l.map f).Nodup → ∀ {x y : α}, x ∈ l → y ∈ l → f x = f y → x = y
  | [], _, _, _, h, _, _ => by cases h
  | a :: l, hn, x, y, hx, hy, e => by
    obtain ⟨h1, h2⟩ := List.nodup_cons.mp hn
    rcases List.mem_cons.mp hx with e1 | hx
    · rcases List.mem_cons.mp hy with e2 | hy
      · rw [e1, e2]
      · exact absurd (by rw [← e1, e]; exact List.mem_map_of_mem hy) h1
    · rcases List.mem_cons.mp hy with e2 | hy
      · exact absurd (by rw [← e2, ← e]; exact List.mem_map_of_mem hx) h1
      · exact nodup_same h2 hx hy e
theorem reads_last {n : Nat} {dl : DefT} {ml : MS} : ∀ {ds : List (DefT × MS)} {L : List (Str × FnE)}, Reads n L (ds ++ [(dl, ml)]) →
    Reads n L ds ∧ ((reading n).ss (dl.tc (look ((ds.map fun q => (q.1.x, feOf q.1 q.2)).reverse ++ L))) (defBody dl.st)).map (·.1) = some ml ∧ dl.Ok
  | [], L, h => ⟨trivial, h.1, h.2.1⟩
  | (d, m) :: ds, L, h => by
    obtain ⟨h1, h2, h3⟩ := h
    obtain ⟨r1, r2, r3⟩ := reads_last h3
    refine ⟨⟨h1, h2, r1⟩, ?_, r3⟩
    rw [List.map_cons, List.reverse_cons, List.append_assoc]
    exact r2
theorem tells_def {ds : List (DefT × MS)} {K : PySem.W.Frag} {h base : Heap} {mg : Str → Option Value} {w : World} (X : K.In h) (Y : K.In base) (G : h.Ns mainGlobals mg) (c : He.SaysX (faOf ds) (fnL ds) [] (tfL ds) (exL ds) w h K)
    (B : ∀ z ∈ tabL ds K, base.BuiltinsAt mg z.1 ∧ mainGlobals ≠ z.1) : DefsIn (tabL ds K) K mg base ds := by
  intro q hq
  obtain ⟨fd, F⟩ := c.t.d.defs (d := q.1.d) (List.mem_map_of_mem (f := fun q : DefT × MS => q.1.d) hq)
  refine ⟨_, fd, F, He.glo_ok X G (c.t.d.facts (f := .glo q.1.x) (List.mem_append_left _ (List.mem_map_of_mem (f := fun q : DefT × MS => He.Fa.glo q.1.x) hq))), fun hl => ?_⟩
  have hm : ((q.1.x, none) : He.Defn) ∈ tfL ds := List.mem_map.mpr ⟨q, List.mem_filter.mpr ⟨hq, hl⟩, rfl⟩
  have hz : ((He.cT K (q.1.x, none)).2, lamQ q.1.x) ∈ tabL ds K := List.mem_map.mpr ⟨_, hm, rfl⟩
  obtain ⟨oc, od, dV, kV, doc, pm, an, cdv, ct, osl, rfl, lk, hcd, _⟩ := F.ex
  obtain ⟨cc, hcc⟩ := He.codeIn_ref hcd
  have e : He.codeOf K (q.1.x, none) = cc := He.codeOf_eq lk (by rw [← hcc])
  have hh := c.hd _ hm
  obtain ⟨b1, b2⟩ := B _ hz
  refine ⟨cc, (He.cT K (q.1.x, none)).2, ⟨PySem.W.codeHd_of_K Y (by rw [← e]; exact hh), b1, b2⟩, by rw [← hcc], hz, fun p hp he => ?_⟩
  obtain ⟨p', hp', rfl⟩ := List.mem_map.mp hp
  have := nodup_same (f := fun p => (He.cT K p).2) (of_decide_eq_true c.more) hp' hm he
  rw [this]
theorem tells_free {ds : List (DefT × MS)} {K : PySem.W.Frag} {h : Heap} {mg : Str → Option Value} (X : K.In h) (G : h.Ns mainGlobals mg) (c : He.SaysD (faOf ds) (fnL ds) K) : ∀ b ∈ bins, mg b = none := fun b hb =>
  He.free_ok X G (c.facts (f := .free b) (List.mem_append_right _ (List.mem_map_of_mem hb)))
theorem law_walk {l : PySem.W.OpenLaw} {n N : Nat} {q : Program} {loose : List Str} {XP : (Str → Option Value) → Heap → Prop} {d : DefRec} {x : Str} {ds : List (DefT × MS)} {dl : DefT} {ml : MS}
    (hn : l.most = some n) (hn2 : n ≤ sizeLine) (hdf : d.params.defaults = []) (hr : Room (0 + 2 * ds.length + 2) callerA)
    (hR : Reads N [] (ds ++ [(dl, ml)])) (hx : dl.x = d.name) (hps : dl.ps = [x]) (hbr : dl.br = false)
    (yes : ∀ ns : List Int, ns.length ≤ n → ∃ o, fnOf dl.N.length ml [.fz (.list (ns.map .int))] = .ok (.fz (.bool true)) o) :
    PySem.W.WalkO q loose XP (fun w h => ∃ K : PySem.W.Frag, K.In h ∧ He.SaysX (faOf (ds ++ [(dl, ml)])) (fnL (ds ++ [(dl, ml)])) [] (tfL (ds ++ [(dl, ml)])) (exL (ds ++ [(dl, ml)])) w h K) l.row.toRowW d [] (fun f vs => PySem.call f vs) := by
  refine Att.attach_call hn hdf fun w s₀ s₁ mg mb fa o pm cd doc a vs ns G Y ho hd hcd hmg hobj hints hlen hg => ?_
  obtain ⟨K, KX, c⟩ := Y
  have B := tells_free KX G.T.g c.t.d
  obtain ⟨r1, r2, r3⟩ := reads_last hR
  obtain ⟨fd0, F0⟩ := c.t.d.defs (d := dl.d) (List.mem_map_of_mem (f := fun q : DefT × MS => q.1.d) (List.mem_append_right _ (List.mem_singleton.mpr rfl)))
  have hf : mg dl.x = some (.ref (He.fAd K dl.d.at_)) := He.glo_ok KX G.T.g (c.t.d.facts (f := .glo dl.x) (List.mem_append_left _ (List.mem_map_of_mem (f := fun q : DefT × MS => He.Fa.glo q.1.x) (List.mem_append_right ds (List.mem_singleton.mpr rfl)))))
  have hf' : mg d.name = some (.ref (He.fAd K dl.d.at_)) := by rw [← hx]; exact hf
  have e := hmg.symm.trans hf'
  cases e
  refine law_at (T := tabL (ds ++ [(dl, ml)]) K) (fe := feOf dl ml) (x := x) (fd := fd0) KX G.T.g G.T.b G.T.builtins G.T.nolimit hg (fun z hz => ?_) (fun z hz => ?_) (fun z hz => ?_) G.T.bmain hobj hints (Nat.le_trans hlen hn2) hr (fun base hb hns hB => ?_) (fun s u => ?_) ?_ hbr (yes ns hlen)
  · obtain ⟨p, hp, rfl⟩ := List.mem_map.mp hz
    exact c.empty p hp
  · obtain ⟨p, hp, rfl⟩ := List.mem_map.mp hz
    exact c.out p hp
  · obtain ⟨p, hp, rfl⟩ := List.mem_map.mp hz
    exact ⟨_, PySem.W.codeHd_of_K KX (c.hd p hp)⟩
  · have D := tells_def KX hb G.T.g c hB
    obtain ⟨f, fd, F, hf2, hT⟩ := D (dl, ml) (List.mem_append_right _ (List.mem_singleton.mpr rfl))
    have e := hf2.symm.trans hf
    cases e
    have efd : fd = fd0 := by
      obtain ⟨_, _, _, _, _, _, _, _, _, _, _, lk1, _⟩ := F.ex
      obtain ⟨_, _, _, _, _, _, _, _, _, _, _, lk2, _⟩ := F0.ex
      have z := lk1.symm.trans lk2
      cases z
      rfl
    subst efd
    have k := known_all (P := l.prog) (w := w) (T := tabL (ds ++ [(dl, ml)]) K) (base := base) (k := 0) B r1 (fun q hq => by cases hq) fun q hq => D q (List.mem_append_left _ hq)
    have g := fnG_def (P := l.prog) (w := w) (base := base) (k := 0 + 2 * ds.length) r3 r2 (fun q hq => k q (by
      rw [List.mem_append] at hq ⊢
      rcases hq with hq | hq
      · exact .inl (List.mem_reverse.mp hq)
      · exact .inr hq)) F hT B
    rw [← hps]
    exact g
  · have b := F0.bindsA r3.bind s [u] (by rw [hps]; rfl)
    rw [hps] at b
    exact b
  · show dl.ps.length = 1
    rw [hps]
    rfl
end FK

/-! FkP: rules for the meanings: what a run ends with (wp), loops, calls. -/
namespace FK
open PySem

/-- so that what comes behind is not looked at ahead of its time -/
inductive Tag {α : Type} (m : M α) (Q : α → Rho → Prop) : Type
  | mk
inductive TagV {α : Type} (Q : α → Prop) : Type
  | mk
inductive TagF (Q : Val → Option (List D) → Prop) : Type
  | mk
def wp {α : Type} (m : M α) (ρ : Rho) (Q : α → Rho → Prop) (t : Tag m Q := .mk) : Prop := match m ρ with
  | .ok a ρ' => Q a ρ'
  | _ => False
def wpF (r : FR) (Q : Val → Option (List D) → Prop) (t : TagF Q := .mk) : Prop := match r with
  | .ok v o => Q v o
  | _ => False
theorem wp_of {α : Type} {m m' : M α} {ρ : Rho} {Q : α → Rho → Prop} (h : m = m') : wp m ρ Q = wp m' ρ Q := by rw [h]
theorem wp_fun {α : Type} {m : M α} {ρ : Rho} {Q Q' : α → Rho → Prop} (h : ∀ a ρ', Q a ρ' = Q' a ρ') : wp m ρ Q = wp m ρ Q' := by
  have e : Q = Q' := funext fun a => funext fun ρ' => h a ρ'
  rw [e]
section
variable {α β : Type} {ρ : Rho} {Q : α → Rho → Prop}
theorem wp_bnd {m : M β} {k : β → M α} : wp (bnd m k) ρ Q = wp m ρ fun a ρ' => wp (k a) ρ' Q := by
  unfold wp bnd
  cases m ρ <;> rfl
theorem wp_ret {a : α} : wp (ret a) ρ Q = Q a ρ := rfl
theorem wp_some {a : α} : wp (lift (some a)) ρ Q = Q a ρ := rfl
theorem wp_stop : wp (stop : M α) ρ Q = False := rfl
theorem wp_none : wp (lift (none : Option α)) ρ Q = False := rfl
theorem wp_ite {c : Prop} [Decidable c] {m n : M α} : wp (if c then m else n) ρ Q = if c then wp m ρ Q else wp n ρ Q := by
  by_cases h : c
  · rw [wp_of (if_pos h), if_pos h]
  · rw [wp_of (if_neg h), if_neg h]
theorem wp.mono {m : M α} {Q' : α → Rho → Prop} (h : wp m ρ Q) (f : ∀ a ρ', Q a ρ' → Q' a ρ') : wp m ρ Q' := by
  unfold wp at *
  cases e : m ρ with
  | ok a ρ' => rw [e] at h; exact f _ _ h
  | exc c ds ρ' => rw [e] at h; exact h
  | bad => rw [e] at h; exact h
theorem wp_iff {m : M α} : wp m ρ Q ↔ ∃ a ρ', m ρ = .ok a ρ' ∧ Q a ρ' := by
  unfold wp
  cases m ρ with
  | ok a ρ' => exact ⟨fun h => ⟨a, ρ', rfl, h⟩, fun ⟨_, _, e, h⟩ => by cases e; exact h⟩
  | exc c ds ρ' => exact ⟨fun h => h.elim, fun ⟨_, _, e, _⟩ => by cases e⟩
  | bad => exact ⟨fun h => h.elim, fun ⟨_, _, e, _⟩ => by cases e⟩
theorem wpF_iff {r : FR} {Q : Val → Option (List D) → Prop} : wpF r Q ↔ ∃ v o, r = .ok v o ∧ Q v o := by
  unfold wpF
  cases r with
  | ok a ρ' => exact ⟨fun h => ⟨a, ρ', rfl, h⟩, fun ⟨_, _, e, h⟩ => by cases e; exact h⟩
  | exc c ds ρ' => exact ⟨fun h => h.elim, fun ⟨_, _, e, _⟩ => by cases e⟩
  | bad => exact ⟨fun h => h.elim, fun ⟨_, _, e, _⟩ => by cases e⟩
theorem wpF.mono {r : FR} {Q Q' : Val → Option (List D) → Prop} (h : wpF r Q) (f : ∀ a ρ', Q a ρ' → Q' a ρ') : wpF r Q' := by
  obtain ⟨v, o, e, h⟩ := wpF_iff.mp h
  exact wpF_iff.mpr ⟨v, o, e, f _ _ h⟩
theorem wpF_ok {v : Val} {o : Option (List D)} {Q : Val → Option (List D) → Prop} : wpF (.ok v o) Q = Q v o := rfl
end
section
variable {ρ : Rho} {Q : Val → Rho → Prop} {QU : Unit → Rho → Prop} {QF : Fl → Rho → Prop} {QB : Bool → Rho → Prop} {QL : List D → Rho → Prop}
theorem wp_mC {d : D} : wp (mC d) ρ Q = Q (.fz d) ρ := rfl
theorem wp_mV {i : Nat} : wp (mV i) ρ Q = match ρ[i]? with
    | some (some (.fz d)) => Q (.fz d) ρ
    | some (some (.ow ds)) => Q (.fz (.list ds)) (ρ.set i (some (.fz (.list ds))))
    | some (some (.od kvs)) => Q (.fz (.dict kvs)) (ρ.set i (some (.fz (.dict kvs))))
    | _ => False := by
  unfold wp mV
  rcases ρ[i]? with _ | _ | (d | ds | kvs) <;> rfl
theorem wp_mMove {i : Nat} : wp (mMove i) ρ Q = match ρ[i]? with
    | some (some v) => Q v ρ
    | _ => False := by
  unfold wp mMove
  rcases ρ[i]? with _ | _ | v <;> rfl
theorem wp_peek {i : Nat} {QD : D → Rho → Prop} : wp (peek i) ρ QD = match ρ[i]? with
    | some (some v) => QD v.data ρ
    | _ => False := by
  unfold wp peek
  rcases ρ[i]? with _ | _ | v <;> rfl
theorem wp_setS {i : Nat} {v : Val} : wp (setS i v) ρ QU = if i < ρ.length then QU () (ρ.set i (some v)) else False := by
  unfold wp setS
  by_cases h : i < ρ.length
  · rw [if_pos h, if_pos h]
  · rw [if_neg h, if_neg h]
theorem wp_chk {i : Nat} : wp (chk i) ρ QU = if isOw ρ[i]? = true then QU () ρ else False := by
  unfold wp chk
  by_cases h : isOw ρ[i]? = true
  · rw [if_pos h, if_pos h]
  · rw [if_neg h, if_neg h]
theorem wp_chg {α : Type} {i : Nat} {f : List D → Option (α × List D)} {QA : α → Rho → Prop} : wp (chg i f) ρ QA = match ρ[i]? with
    | some (some (.ow ds)) => match f ds with
      | some (a, es) => QA a (ρ.set i (some (.ow es)))
      | none => False
    | _ => False := by
  unfold wp chg
  rcases ρ[i]? with _ | _ | (d | ds | kvs)
  · rfl
  · rfl
  · rfl
  · simp only
    cases f ds <;> rfl
  · rfl
theorem wp_mCall {fe : FnE} {es : List (Bool × M Val)} : wp (mCall fe es) ρ Q = wp (mItems es) ρ fun ds ρ' => ds.length = fe.np ∧ wpF (fe.f (ds.map .fz)) fun v _ => Q v ρ' := by
  unfold mCall
  rw [wp_bnd]
  refine wp_fun fun ds ρ' => ?_
  unfold wp
  simp only
  by_cases h : ds.length = fe.np
  · rw [if_pos h]
    unfold wpF
    cases fe.f (ds.map .fz) <;> simp [h]
  · rw [if_neg h]
    simp [h]
theorem wp_mCallR {fe : FnE} {i : Nat} {es : List (Bool × M Val)} : wp (mCallR fe i es) ρ Q = wp (chk i) ρ fun _ ρ1 => wp (mItems es) ρ1 fun ds ρ' => ds.length + 1 = fe.np ∧ match ρ'[i]? with
    | some (some (.ow bs)) => wpF (fe.f (.ow bs :: ds.map .fz)) fun v o => match o with
      | some bs' => Q v (ρ'.set i (some (.ow bs')))
      | none => False
    | _ => False := by
  unfold mCallR
  rw [wp_bnd]
  refine wp_fun fun u ρ1 => ?_
  rw [wp_bnd]
  refine wp_fun fun ds ρ' => ?_
  unfold wp
  simp only
  by_cases h : ds.length + 1 = fe.np
  · rw [if_pos h]
    generalize ρ'[i]? = z
    rcases z with _ | _ | (d | bs | kvs)
    · simp
    · simp
    · simp
    · simp only [h, true_and]
      unfold wpF
      cases fe.f (.ow bs :: ds.map .fz) with
      | ok v o => cases o <;> rfl
      | exc c ds o => rfl
      | bad => rfl
    · simp
  · rw [if_neg h]
    simp [h]
theorem wp_sAug {i : Nat} {op : Int → Int → Int} {m : M Val} : wp (sAug i op m) ρ QF = match ρ[i]? with
    | some (some (.fz (.int a))) => wp m ρ fun v ρ1 => match v.data with
      | .int b => wp (setS i (.fz (.int (op a b)))) ρ1 fun _ ρ2 => QF .nx ρ2
      | _ => False
    | _ => False := by
  have e : wp (sAug i op m) ρ QF = match ρ[i]? with
    | some (some (.fz (.int a))) => wp (bnd m fun v => match v.data with
      | .int b => bnd (setS i (.fz (.int (op a b)))) fun _ => ret .nx
      | _ => stop) ρ QF
    | _ => False := by
    unfold wp sAug
    generalize ρ[i]? = z
    rcases z with _ | _ | (d | bs | kvs) <;> first | rfl | (cases d <;> rfl)
  rw [e]
  generalize ρ[i]? = z
  rcases z with _ | _ | (d | bs | kvs) <;> first | rfl | skip
  cases d <;> first | rfl | skip
  simp only
  rw [wp_bnd]
  refine wp_fun fun v ρ1 => ?_
  cases v.data <;> first | rfl | (simp only [wp_bnd]; rfl)
theorem wp_sAugI {i : Nat} {op : Int → Int → Int} {k m : M Val} : wp (sAugI i op k m) ρ QF = wp (chk i) ρ fun _ ρ1 => wp k ρ1 fun j ρ2 => match ρ2[i]? with
    | some (some (.ow ds)) => match j.data with
      | .int n => match getAt n ds with
        | some (.int a) => wp m ρ2 fun v ρ3 => match v.data with
          | .int b => wp (chg i (putAt (.int (op a b)) (.int n))) ρ3 fun _ ρ4 => QF .nx ρ4
          | _ => False
        | _ => False
      | _ => False
    | _ => False := by
  unfold sAugI
  rw [wp_bnd]
  refine wp_fun fun u ρ1 => ?_
  rw [wp_bnd]
  refine wp_fun fun j ρ2 => ?_
  have e : wp (fun ρ => match ρ[i]? with
      | some (some (.ow ds)) => match j.data with
        | .int n => match getAt n ds with
          | some (.int a) => (bnd m fun v => match v.data with
            | .int b => bnd (chg i (putAt (.int (op a b)) (.int n))) fun _ => ret .nx
            | _ => stop) ρ
          | _ => .bad
        | _ => .bad
      | _ => .bad) ρ2 QF = match ρ2[i]? with
      | some (some (.ow ds)) => match j.data with
        | .int n => match getAt n ds with
          | some (.int a) => wp (bnd m fun v => match v.data with
            | .int b => bnd (chg i (putAt (.int (op a b)) (.int n))) fun _ => ret .nx
            | _ => stop) ρ2 QF
          | _ => False
        | _ => False
      | _ => False := by
    unfold wp
    simp only
    generalize ρ2[i]? = z
    rcases z with _ | _ | (d | ds | kvs)
    · rfl
    · rfl
    · rfl
    · simp only
      rcases hj : j.data with _ | _ | n | _ | _ | _ | _ <;> simp only
      rcases getAt n ds with _ | d
      · rfl
      · cases d <;> rfl
    · rfl
  refine Eq.trans e ?_
  generalize ρ2[i]? = z
  rcases z with _ | _ | (d | ds | kvs)
  · rfl
  · rfl
  · rfl
  · simp only
    rcases hj : j.data with _ | _ | n | _ | _ | _ | _ <;> simp only
    rcases getAt n ds with _ | d
    · rfl
    · cases d <;> simp only
      rw [wp_bnd]
      refine wp_fun fun v ρ3 => ?_
      cases v.data <;> first | rfl | (simp only [wp_bnd]; rfl)
  · rfl
theorem wp_sSeq {a b : MS} : wp (sSeq a b) ρ QF = wp a ρ fun f ρ' => match f with
    | .nx => wp b ρ' QF
    | .bk => QF .bk ρ'
    | .ct => QF .ct ρ'
    | .rt v => QF (.rt v) ρ' := by
  unfold sSeq
  rw [wp_bnd]
  refine wp_fun fun f ρ' => ?_
  cases f <;> rfl
end

/-! ### defs -/
theorem wpF_fnOf {N : Nat} {b : MS} {vs : List Val} {Q : Val → Option (List D) → Prop} : wpF (fnOf N b vs) Q = wp b (vs.map some ++ List.replicate (N - vs.length) none) fun f ρ => match out0 vs ρ with
    | some o => match f with
      | .rt v => Q v o
      | .nx => Q (.fz .none) o
      | _ => False
    | none => False := by
  unfold fnOf wp wpF
  cases b (vs.map some ++ List.replicate (N - vs.length) none) with
  | ok f ρ =>
    simp only
    cases out0 vs ρ with
    | none => rfl
    | some o => cases f <;> rfl
  | exc c ds ρ =>
    simp only
    cases out0 vs ρ <;> rfl
  | bad => rfl

/-! ### loops -/
theorem wp_forL {α : Type} {t : Tgt} {b : MS} {enc : α → D} {Q : Fl → Rho → Prop} (I : List α → List α → Rho → Prop)
    (step : ∀ done a rest ρ, I done (a :: rest) ρ → wp (t.put (enc a)) ρ fun _ ρ1 => wp b ρ1 fun f ρ2 => match f with
      | .nx => I (done ++ [a]) rest ρ2
      | .ct => I (done ++ [a]) rest ρ2
      | .bk => Q .nx ρ2
      | .rt v => Q (.rt v) ρ2) (fin : ∀ done ρ, I done [] ρ → Q .nx ρ) :
    ∀ (rest done : List α) (ρ : Rho), I done rest ρ → wp (forL t b (rest.map enc)) ρ Q
  | [], done, ρ, h => fin done ρ h
  | a :: rest, done, ρ, h => by
    rw [List.map_cons]
    show wp (bnd (t.put (enc a)) fun _ => bnd b fun f => match f with
      | .nx => forL t b (rest.map enc)
      | .ct => forL t b (rest.map enc)
      | .bk => ret .nx
      | .rt v => ret (.rt v)) ρ _; rw [wp_bnd]
    refine (step done a rest ρ h).mono fun _ ρ1 h1 => ?_
    rw [wp_bnd]
    refine h1.mono fun f ρ2 h2 => ?_
    cases f with
    | nx => exact wp_forL I step fin rest (done ++ [a]) ρ2 h2
    | ct => exact wp_forL I step fin rest (done ++ [a]) ρ2 h2
    | bk => exact h2
    | rt v => exact h2
/-- one turn of a comprehension -/
def turn1 (t : Tgt) (c : M Bool) (e : M Val) (d : D) : M (List D) := bnd (t.put d) fun _ => bnd c fun b => if b then bnd e fun v => ret [v.data] else ret []
theorem wp_compL {α : Type} {t : Tgt} {c : M Bool} {e : M Val} {vs : List Nat} {enc : α → D} {Q : List D → Rho → Prop} (I : List α → List α → List D → Rho → Prop)
    (step : ∀ done a rest out ρ, I done (a :: rest) out ρ → wp (turn1 t c e (enc a)) ρ fun o ρ1 => I (done ++ [a]) rest (out ++ o) (wipeR ρ1 vs)) (fin : ∀ done out ρ, I done [] out ρ → Q out ρ) :
    ∀ (rest done : List α) (out : List D) (ρ : Rho), I done rest out ρ → wp (compL t c e vs (rest.map enc)) ρ fun r ρ' => Q (out ++ r) ρ'
  | [], done, out, ρ, h => by
    show Q (out ++ []) ρ
    rw [List.append_nil]
    exact fin done out ρ h
  | a :: rest, done, out, ρ, h => by
    rw [List.map_cons]
    show wp (bnd (t.put (enc a)) fun _ => bnd c fun b => bnd (if b then bnd e fun v => ret [v.data] else ret []) fun o => bnd (wipeM vs) fun _ => bnd (compL t c e vs (rest.map enc)) fun r => ret (o ++ r)) ρ _
    have s := step done a rest out ρ h
    unfold turn1 at s
    rw [wp_bnd] at s ⊢
    refine s.mono fun _ ρ1 s => ?_
    rw [wp_bnd] at s ⊢
    refine s.mono fun b ρ2 s => ?_
    rw [wp_bnd]
    refine s.mono fun o ρ3 s => ?_
    rw [wp_bnd]
    show wp (bnd (compL t c e vs (rest.map enc)) _) (wipeR ρ3 vs) _
    rw [wp_bnd]
    show wp (compL t c e vs (rest.map enc)) (wipeR ρ3 vs) _
    refine (wp_compL I step fin rest _ _ _ s).mono fun r ρ4 q => ?_
    show Q (out ++ (o ++ r)) ρ4
    rw [← List.append_assoc]
    exact q
theorem wp_mComp {vs : List Nat} {it : M (List D)} {t : Tgt} {c : M Bool} {e : M Val} {ρ : Rho} {Q : Val → Rho → Prop} :
    wp (mComp vs it t c e) ρ Q = wp it ρ fun ds ρ1 => noOw ρ1 vs = true ∧ wp (compL t c e vs ds) (wipeR ρ1 vs) fun r ρ2 => Q (.ow r) (restore ρ1 ρ2 vs) := by
  unfold mComp
  rw [wp_bnd]
  refine wp_fun fun ds ρ1 => ?_
  unfold wp
  simp only
  by_cases h : noOw ρ1 vs = true
  · rw [if_pos h]
    simp only [h, true_and]
    cases compL t c e vs ds (wipeR ρ1 vs) <;> rfl
  · rw [if_neg h]
    simp [h]
/-- a comprehension that changes nothing: what each turn gives -/
theorem wp_compP {α : Type} {t : Tgt} {c : M Bool} {e : M Val} {vs : List Nat} {enc : α → D} {Q : List D → Rho → Prop} {g : α → List D} {L : List α} {ρ : Rho}
    (step : ∀ a ∈ L, wp (turn1 t c e (enc a)) ρ fun o ρ1 => o = g a ∧ wipeR ρ1 vs = ρ) (fin : Q (L.flatMap g) ρ) : wp (compL t c e vs (L.map enc)) ρ Q := by
  refine (wp_compL (enc := enc) (I := fun done rest out ρ' => ρ' = ρ ∧ out = done.flatMap g ∧ L = done ++ rest) (Q := fun r ρ' => r = L.flatMap g ∧ ρ' = ρ) (fun done a rest out ρ' h => ?_) (fun done out ρ' h => ?_) L [] [] ρ ⟨rfl, rfl, rfl⟩).mono fun r ρ' h => ?_
  · obtain ⟨rfl, rfl, e⟩ := h
    refine (step a (by rw [e]; simp)).mono fun o ρ1 q => ⟨q.2, ?_, ?_⟩
    · rw [q.1]; simp
    · rw [e]; simp
  · obtain ⟨rfl, rfl, e⟩ := h
    exact ⟨by rw [e, List.append_nil], rfl⟩
  · obtain ⟨h1, rfl⟩ := h
    rw [show r = L.flatMap g by simpa using h1]
    exact fin

/-! ### the small steps -/
theorem put_nm {i : Nat} {d : D} : (Tgt.nm i).put d = setS i (.fz d) := by unfold Tgt.put; rfl
theorem put_tup {ts : List Tgt} {ds : List D} : (Tgt.tup ts).put (.tuple ds) = if ds.length = ts.length then Tgt.putAll ts ds else stop := by unfold Tgt.put; rfl
theorem putAll_nil : Tgt.putAll [] [] = ret () := by unfold Tgt.putAll; rfl
theorem putAll_cons {t : Tgt} {ts : List Tgt} {d : D} {ds : List D} : Tgt.putAll (t :: ts) (d :: ds) = bnd (t.put d) fun _ => Tgt.putAll ts ds := by
  conv => lhs; unfold Tgt.putAll
theorem ite_and {p q : Prop} [Decidable p] : (if p then q else False) = (p ∧ q) := by
  by_cases h : p <;> simp [h]
theorem isOw_ow {ds : List D} : isOw (some (some (.ow ds))) = true := rfl
theorem isOw_fz {d : D} : isOw (some (some (.fz d))) = false := rfl
theorem isOw_none : isOw (some none) = false := rfl
/-- an operation's answer -/
def wpV {α : Type} (o : Option α) (Q : α → Prop) (t : TagV Q := .mk) : Prop := match o with
  | some a => Q a
  | none => False
section
variable {α : Type} {ρ : Rho} {Q : Val → Rho → Prop} {QU : Unit → Rho → Prop} {QF : Fl → Rho → Prop} {QB : Bool → Rho → Prop} {QL : List D → Rho → Prop} {QA : α → Rho → Prop} {QO : Option D → Rho → Prop} {QD : D → Rho → Prop}
theorem wpV_some {a : α} {Q : α → Prop} : wpV (some a) Q = Q a := rfl
theorem wpV_none {Q : α → Prop} : wpV (none : Option α) Q = False := rfl
theorem wpV_ite {c : Prop} [Decidable c] {o : Option α} {Q : α → Prop} : wpV (if c then o else none) Q = (c ∧ wpV o Q) := by
  by_cases h : c <;> simp [h, wpV]
theorem wpV_map {β : Type} {o : Option β} {f : β → α} {Q : α → Prop} : wpV (o.map f) Q = wpV o fun b => Q (f b) := by
  cases o <;> rfl
theorem wp_lift {o : Option α} : wp (lift o) ρ QA = wpV o fun a => QA a ρ := by cases o <;> rfl
theorem wp_run_nm {i : Nat} : wp (Opd.nm i).run ρ QO = wp (peek i) ρ fun _ ρ' => QO none ρ' := by show wp (bnd (peek i) fun _ => ret none) ρ _ = _; rw [wp_bnd]; rfl
theorem wp_run_ex {m : M Val} : wp (Opd.ex m).run ρ QO = wp m ρ fun v ρ' => QO (some v.data) ρ' := by show wp (bnd m fun v => ret (some v.data)) ρ _ = _; rw [wp_bnd]; rfl
theorem wp_get_nm {i : Nat} {x : Option D} : wp ((Opd.nm i).get x) ρ QD = wp (peek i) ρ QD := rfl
theorem wp_get_ex {m : M Val} {d : D} : wp ((Opd.ex m).get (some d)) ρ QD = QD d ρ := rfl
theorem wp_mUn {op : D → Option Val} {a : Opd} : wp (mUn op a) ρ Q = wp a.run ρ fun x ρ1 => wp (a.get x) ρ1 fun d ρ2 => wpV (op d) fun v => Q v ρ2 := by
  unfold mUn
  rw [wp_bnd]
  refine wp_fun fun x ρ1 => ?_
  rw [wp_bnd]
  refine wp_fun fun d ρ2 => ?_
  rw [wp_lift]
theorem wp_mBin {op : D → D → Option Val} {a b : Opd} : wp (mBin op a b) ρ Q = wp a.run ρ fun x ρ1 => wp b.run ρ1 fun y ρ2 => wp (a.get x) ρ2 fun d ρ3 => wp (b.get y) ρ3 fun e ρ4 => wpV (op d e) fun v => Q v ρ4 := by
  unfold mBin
  rw [wp_bnd]
  refine wp_fun fun x ρ1 => ?_
  rw [wp_bnd]
  refine wp_fun fun y ρ2 => ?_
  rw [wp_bnd]
  refine wp_fun fun d ρ3 => ?_
  rw [wp_bnd]
  refine wp_fun fun e ρ4 => ?_
  rw [wp_lift]
theorem wp_runs_nil {QR : List (Option D) → Rho → Prop} : wp (runs []) ρ QR = QR [] ρ := rfl
theorem wp_runs_cons {QR : List (Option D) → Rho → Prop} {a : Opd} {as : List Opd} : wp (runs (a :: as)) ρ QR = wp a.run ρ fun x ρ1 => wp (runs as) ρ1 fun xs ρ2 => QR (x :: xs) ρ2 := by
  show wp (bnd a.run fun x => bnd (runs as) fun xs => ret (x :: xs)) ρ _ = _
  rw [wp_bnd]
  refine wp_fun fun x ρ1 => ?_
  rw [wp_bnd]
  rfl
theorem wp_gets_nil {xs : List (Option D)} : wp (gets [] xs) ρ QL = QL [] ρ := wp_of (m' := ret []) rfl
theorem wp_gets_cons {a : Opd} {as : List Opd} {x : Option D} {xs : List (Option D)} : wp (gets (a :: as) (x :: xs)) ρ QL = wp (a.get x) ρ fun d ρ1 => wp (gets as xs) ρ1 fun ds ρ2 => QL (d :: ds) ρ2 := by
  show wp (bnd (a.get x) fun d => bnd (gets as xs) fun ds => ret (d :: ds)) ρ _ = _
  rw [wp_bnd]
  refine wp_fun fun x ρ1 => ?_
  rw [wp_bnd]
  rfl
theorem wp_mFn {op : List D → Option Val} {as : List Opd} : wp (mFn op as) ρ Q = wp (runs as) ρ fun xs ρ1 => wp (gets as xs) ρ1 fun ds ρ2 => wpV (op ds) fun v => Q v ρ2 := by
  unfold mFn
  rw [wp_bnd]
  refine wp_fun fun x ρ1 => ?_
  rw [wp_bnd]
  refine wp_fun fun d ρ2 => ?_
  rw [wp_lift]
theorem wp_it_nil : wp (mItems []) ρ QL = QL [] ρ := wp_of (m' := ret []) rfl
theorem wp_it_one {m : M Val} {es : List (Bool × M Val)} : wp (mItems ((false, m) :: es)) ρ QL = wp m ρ fun v ρ1 => wp (mItems es) ρ1 fun ds ρ2 => QL (v.data :: ds) ρ2 := by
  show wp (bnd m fun v => bnd (mItems es) fun ds => ret (v.data :: ds)) ρ _ = _
  rw [wp_bnd]
  refine wp_fun fun x ρ1 => ?_
  rw [wp_bnd]
  rfl
theorem wp_it_star {m : M Val} {es : List (Bool × M Val)} : wp (mItems ((true, m) :: es)) ρ QL = wp m ρ fun v ρ1 => wpV (seqOf v.data) fun xs => wp (mItems es) ρ1 fun ds ρ2 => QL (xs ++ ds) ρ2 := by
  show wp (bnd m fun v => bnd (lift (seqOf v.data)) fun xs => bnd (mItems es) fun ds => ret (xs ++ ds)) ρ _ = _
  rw [wp_bnd]
  refine wp_fun fun x ρ1 => ?_
  rw [wp_bnd, wp_lift]
  cases seqOf x.data with
  | none => rfl
  | some xs =>
    show wp _ _ _ = wp _ _ _
    rw [wp_bnd]
    rfl
theorem wp_mTup {es : List (Bool × M Val)} : wp (mTup es) ρ Q = wp (mItems es) ρ fun ds ρ1 => szOk ds = true ∧ Q (.fz (.tuple ds)) ρ1 := by
  unfold mTup
  rw [wp_bnd]
  refine wp_fun fun ds ρ1 => ?_
  by_cases h : szOk ds = true
  · rw [if_pos h]; simp [h, wp_ret]
  · rw [if_neg h]; simp [h, wp_stop]
theorem wp_mLst {es : List (Bool × M Val)} : wp (mLst es) ρ Q = wp (mItems es) ρ fun ds ρ1 => szOk ds = true ∧ Q (.ow ds) ρ1 := by
  unfold mLst
  rw [wp_bnd]
  refine wp_fun fun ds ρ1 => ?_
  by_cases h : szOk ds = true
  · rw [if_pos h]; simp [h, wp_ret]
  · rw [if_neg h]; simp [h, wp_stop]
theorem wp_mT {a : Opd} : wp (mT a) ρ QB = wp a.run ρ fun x ρ1 => wp (a.get x) ρ1 fun d ρ2 => wpV (truth d) fun b => QB b ρ2 := by
  unfold mT
  rw [wp_bnd]
  refine wp_fun fun x ρ1 => ?_
  rw [wp_bnd]
  refine wp_fun fun d ρ2 => ?_
  rw [wp_lift]
theorem wp_mNot {c : M Bool} : wp (mNot c) ρ QB = wp c ρ fun b ρ1 => QB (!b) ρ1 := by unfold mNot; rw [wp_bnd]; rfl
theorem wp_mAnd {c e : M Bool} : wp (mAnd c e) ρ QB = wp c ρ fun b ρ1 => if b = true then wp e ρ1 QB else QB false ρ1 := by
  unfold mAnd
  rw [wp_bnd]
  refine wp_fun fun b ρ1 => ?_
  cases b <;> rfl
theorem wp_mOr {c e : M Bool} : wp (mOr c e) ρ QB = wp c ρ fun b ρ1 => if b = true then QB true ρ1 else wp e ρ1 QB := by
  unfold mOr
  rw [wp_bnd]
  refine wp_fun fun b ρ1 => ?_
  cases b <;> rfl
theorem wp_mBl {c : M Val} : wp (mBl c) ρ QB = wp c ρ fun v ρ1 => wpV (asBool v.data) fun b => QB b ρ1 := by
  unfold mBl
  rw [wp_bnd]
  refine wp_fun fun v ρ1 => ?_
  rw [wp_lift]
theorem wp_asT {c : M Val} : wp (asT c) ρ QB = wp c ρ fun v ρ1 => wpV (asBool v.data) fun b => QB b ρ1 := wp_mBl
theorem wp_mAndV {a b : M Val} : wp (mAndV a b) ρ Q = wp a ρ fun v ρ1 => wpV (asBool v.data) fun x => if x = true then wp b ρ1 Q else Q (.fz (.bool false)) ρ1 := by
  unfold mAndV
  rw [wp_bnd, wp_mBl]
  refine wp_fun fun v ρ1 => ?_
  cases asBool v.data with
  | none => rfl
  | some x => cases x <;> rfl
theorem wp_mOrV {a b : M Val} : wp (mOrV a b) ρ Q = wp a ρ fun v ρ1 => wpV (asBool v.data) fun x => if x = true then Q (.fz (.bool true)) ρ1 else wp b ρ1 Q := by
  unfold mOrV
  rw [wp_bnd, wp_mBl]
  refine wp_fun fun v ρ1 => ?_
  cases asBool v.data with
  | none => rfl
  | some x => cases x <;> rfl
theorem wp_mNotB {m : M Val} : wp (mNotB m) ρ Q = wp m ρ fun v ρ1 => wpV (asBool v.data) fun b => Q (.fz (.bool (!b))) ρ1 := by
  unfold mNotB
  rw [wp_bnd, wp_mBl]
  refine wp_fun fun v ρ1 => ?_
  cases asBool v.data <;> rfl
theorem wp_mIf {c : M Bool} {a b : M Val} : wp (mIf c a b) ρ Q = wp c ρ fun t ρ1 => if t = true then wp a ρ1 Q else wp b ρ1 Q := by
  unfold mIf
  rw [wp_bnd]
  refine wp_fun fun v ρ1 => ?_
  cases v <;> rfl
theorem wp_mYes : wp mYes ρ QB = QB true ρ := rfl
theorem wp_itSeq {m : M Val} : wp (itSeq m) ρ QL = wp m ρ fun v ρ1 => wpV (seqOf v.data) fun ds => QL ds ρ1 := by
  unfold itSeq
  rw [wp_bnd]
  refine wp_fun fun v ρ1 => ?_
  rw [wp_lift]
theorem wp_itRng {as : List Opd} : wp (itRng as) ρ QL = wp (runs as) ρ fun xs ρ1 => wp (gets as xs) ρ1 fun ds ρ2 => wpV (rngOf ds) fun v => QL v ρ2 := by
  unfold itRng
  rw [wp_bnd]
  refine wp_fun fun x ρ1 => ?_
  rw [wp_bnd]
  refine wp_fun fun d ρ2 => ?_
  rw [wp_lift]
theorem wp_itEnum {m : M Val} : wp (itEnum m) ρ QL = wp m ρ fun v ρ1 => wpV (seqOf v.data) fun ds => QL (enumL 0 ds) ρ1 := by
  unfold itEnum
  rw [wp_bnd]
  refine wp_fun fun v ρ1 => ?_
  rw [wp_bnd, wp_lift]
  cases seqOf v.data <;> rfl
theorem wp_itZip {m n : M Val} : wp (itZip m n) ρ QL = wp m ρ fun v ρ1 => wp n ρ1 fun u ρ2 => wpV (seqOf v.data) fun xs => wpV (seqOf u.data) fun ys => QL (zipL xs ys) ρ2 := by
  unfold itZip
  rw [wp_bnd]
  refine wp_fun fun v ρ1 => ?_
  rw [wp_bnd]
  refine wp_fun fun u ρ2 => ?_
  rw [wp_bnd, wp_lift]
  cases seqOf v.data with
  | none => rfl
  | some xs =>
    show wp (bnd (lift (seqOf u.data)) _) ρ2 _ = wpV (seqOf u.data) _
    rw [wp_bnd, wp_lift]
    cases seqOf u.data <;> rfl
theorem wp_lstRng {it : M (List D)} : wp (lstRng it) ρ Q = wp it ρ fun ds ρ1 => Q (.ow ds) ρ1 := by unfold lstRng; rw [wp_bnd]; rfl
theorem wp_tupRng {it : M (List D)} : wp (tupRng it) ρ Q = wp it ρ fun ds ρ1 => Q (.fz (.tuple ds)) ρ1 := by unfold tupRng; rw [wp_bnd]; rfl
theorem wp_part_none {QI : Option Int → Rho → Prop} : wp (part none) ρ QI = QI none ρ := rfl
def intOf : D → Option Int
  | .int i => some i
  | _ => none
theorem wp_part_some {m : M Val} {QI : Option Int → Rho → Prop} : wp (part (some m)) ρ QI = wp m ρ fun v ρ1 => wpV (intOf v.data) fun i => QI (some i) ρ1 := by
  unfold part
  rw [wp_bnd]
  refine wp_fun fun v ρ1 => ?_
  cases v.data <;> rfl
theorem wp_mSl {a : Opd} {lo hi : Option (M Val)} : wp (mSl a lo hi) ρ Q = wp a.run ρ fun x ρ1 => wp (part lo) ρ1 fun l ρ2 => wp (part hi) ρ2 fun h ρ3 => wp (a.get x) ρ3 fun d ρ4 => wpV (oSl d l h) fun v => Q v ρ4 := by
  unfold mSl
  rw [wp_bnd]
  refine wp_fun fun x ρ1 => ?_
  rw [wp_bnd]
  refine wp_fun fun y ρ2 => ?_
  rw [wp_bnd]
  refine wp_fun fun d ρ3 => ?_
  rw [wp_bnd]
  refine wp_fun fun e ρ4 => ?_
  rw [wp_lift]
theorem wp_put_nm {i : Nat} {d : D} : wp ((Tgt.nm i).put d) ρ QU = if i < ρ.length then QU () (ρ.set i (some (.fz d))) else False := by rw [put_nm, wp_setS]
theorem wp_put_tup {ts : List Tgt} {ds : List D} : wp ((Tgt.tup ts).put (.tuple ds)) ρ QU = (ds.length = ts.length ∧ wp (Tgt.putAll ts ds) ρ QU) := by
  rw [put_tup, wp_ite]
  by_cases h : ds.length = ts.length
  · rw [if_pos h, eq_true h, true_and]
  · rw [if_neg h, eq_false h, false_and, wp_stop]
theorem wp_putAll_nil : wp (Tgt.putAll [] []) ρ QU = QU () ρ := by rw [putAll_nil]; rfl
theorem wp_putAll_cons {t : Tgt} {ts : List Tgt} {d : D} {ds : List D} : wp (Tgt.putAll (t :: ts) (d :: ds)) ρ QU = wp (t.put d) ρ fun _ ρ1 => wp (Tgt.putAll ts ds) ρ1 QU := by rw [putAll_cons, wp_bnd]
theorem wp_sNx : wp sNx ρ QF = QF .nx ρ := rfl
theorem wp_sSet {i : Nat} {m : M Val} : wp (sSet i m) ρ QF = wp m ρ fun v ρ1 => if i < ρ1.length then QF .nx (ρ1.set i (some v)) else False := by
  unfold sSet
  rw [wp_bnd]
  refine wp_fun fun v ρ1 => ?_
  rw [wp_bnd, wp_setS]
  rfl
theorem wp_sPut {t : Tgt} {m : M Val} : wp (sPut t m) ρ QF = wp m ρ fun v ρ1 => wp (t.put v.data) ρ1 fun _ ρ2 => QF .nx ρ2 := by
  unfold sPut
  rw [wp_bnd]
  refine wp_fun fun v ρ1 => ?_
  rw [wp_bnd]
  rfl
theorem wp_temps_nil {QV : List Val → Rho → Prop} : wp (temps []) ρ QV = QV [] ρ := wp_of (m' := ret []) rfl
theorem wp_temps_cons {QV : List Val → Rho → Prop} {m : M Val} {ms : List (M Val)} : wp (temps (m :: ms)) ρ QV = wp m ρ fun v ρ1 => wp (temps ms) ρ1 fun vs ρ2 => QV (v :: vs) ρ2 := by
  show wp (bnd m fun v => bnd (temps ms) fun vs => ret (v :: vs)) ρ _ = _
  rw [wp_bnd]
  refine wp_fun fun v ρ1 => ?_
  rw [wp_bnd]
  rfl
theorem wp_setAll_nil : wp (setAll [] []) ρ QU = QU () ρ := wp_of (m' := ret ()) rfl
theorem wp_setAll_cons {i : Nat} {is : List Nat} {v : Val} {vs : List Val} : wp (setAll (i :: is) (v :: vs)) ρ QU = if i < ρ.length then wp (setAll is vs) (ρ.set i (some v)) QU else False := by
  show wp (bnd (setS i v) fun _ => setAll is vs) ρ _ = _
  rw [wp_bnd, wp_setS]
theorem wp_sPar {is : List Nat} {ms : List (M Val)} : wp (sPar is ms) ρ QF = wp (temps ms) ρ fun vs ρ1 => wp (setAll is vs) ρ1 fun _ ρ2 => QF .nx ρ2 := by
  unfold sPar
  rw [wp_bnd]
  refine wp_fun fun v ρ1 => ?_
  rw [wp_bnd]
  rfl
theorem wp_sDrop {m : M Val} : wp (sDrop m) ρ QF = wp m ρ fun _ ρ1 => QF .nx ρ1 := by unfold sDrop; rw [wp_bnd]; rfl
theorem wp_sRet {m : M Val} : wp (sRet m) ρ QF = wp m ρ fun v ρ1 => QF (.rt v) ρ1 := by unfold sRet; rw [wp_bnd]; rfl
theorem wp_sIf {c : M Bool} {a b : MS} : wp (sIf c a b) ρ QF = wp c ρ fun t ρ1 => if t = true then wp a ρ1 QF else wp b ρ1 QF := by
  unfold sIf
  rw [wp_bnd]
  refine wp_fun fun v ρ1 => ?_
  cases v <;> rfl
theorem wp_sFor {it : M (List D)} {t : Tgt} {b : MS} : wp (sFor it t b) ρ QF = wp it ρ fun ds ρ1 => wp (forL t b ds) ρ1 QF := by unfold sFor; rw [wp_bnd]
theorem wp_sItem {i : Nat} {e m : M Val} : wp (sItem i e m) ρ QF = wp m ρ fun v ρ1 => wp (chk i) ρ1 fun _ ρ2 => wp e ρ2 fun k ρ3 => wp (chg i (putAt v.data k.data)) ρ3 fun _ ρ4 => QF .nx ρ4 := by
  unfold sItem
  rw [wp_bnd]
  refine wp_fun fun v ρ1 => ?_
  rw [wp_bnd]
  refine wp_fun fun _ ρ2 => ?_
  rw [wp_bnd]
  refine wp_fun fun k ρ3 => ?_
  rw [wp_bnd]
  rfl
theorem wp_sApp {i : Nat} {m : M Val} : wp (sApp i m) ρ QF = wp (chk i) ρ fun _ ρ1 => wp m ρ1 fun v ρ2 => wp (chg i (appD v.data)) ρ2 fun _ ρ3 => QF .nx ρ3 := by
  unfold sApp
  rw [wp_bnd]
  refine wp_fun fun _ ρ1 => ?_
  rw [wp_bnd]
  refine wp_fun fun v ρ2 => ?_
  rw [wp_bnd]
  rfl
theorem wp_sIns {i : Nat} {k m : M Val} : wp (sIns i k m) ρ QF = wp (chk i) ρ fun _ ρ1 => wp k ρ1 fun j ρ2 => wp m ρ2 fun v ρ3 => wp (chg i (insD j.data v.data)) ρ3 fun _ ρ4 => QF .nx ρ4 := by
  unfold sIns
  rw [wp_bnd]
  refine wp_fun fun _ ρ1 => ?_
  rw [wp_bnd]
  refine wp_fun fun v ρ2 => ?_
  rw [wp_bnd]
  refine wp_fun fun v ρ3 => ?_
  rw [wp_bnd]
  rfl
theorem wp_turn1 {t : Tgt} {c : M Bool} {e : M Val} {d : D} : wp (turn1 t c e d) ρ QL = wp (t.put d) ρ fun _ ρ1 => wp c ρ1 fun b ρ2 => if b = true then wp e ρ2 fun v ρ3 => QL [v.data] ρ3 else QL [] ρ2 := by
  unfold turn1
  rw [wp_bnd]
  refine wp_fun fun _ ρ1 => ?_
  rw [wp_bnd]
  refine wp_fun fun b ρ2 => ?_
  cases b with
  | false => rfl
  | true =>
    show wp (bnd e _) ρ2 QL = wp e ρ2 _
    rw [wp_bnd]
    rfl
theorem wp_chg' {i : Nat} {f : List D → Option (α × List D)} : wp (chg i f) ρ QA = match ρ[i]? with
    | some (some (.ow ds)) => wpV (f ds) fun q => QA q.1 (ρ.set i (some (.ow q.2)))
    | _ => False := by
  rw [wp_chg]
  rcases ρ[i]? with _ | _ | (d | ds | kvs)
  · rfl
  · rfl
  · rfl
  · simp only
    cases f ds <;> rfl
  · rfl
end
/-! ### operations at what they take -/
section
variable {a b : Int} {xs ys : List D} {d e : D}
theorem dat_fz : (Val.fz d).data = d := rfl
theorem dat_ow : (Val.ow xs).data = .list xs := rfl
theorem truth_int {i : Int} : truth (.int i) = some (i != 0) := rfl
theorem truth_bool {b : Bool} : truth (.bool b) = some b := rfl
theorem truth_list {ds : List D} : truth (.list ds) = some (!ds.isEmpty) := rfl
theorem truth_tup {ds : List D} : truth (.tuple ds) = some (!ds.isEmpty) := rfl
theorem asBool_bool {b : Bool} : asBool (.bool b) = some b := rfl
theorem intOf_int : intOf (.int a) = some a := rfl
theorem seqOf_list : seqOf (.list xs) = some xs := rfl
theorem seqOf_tup : seqOf (.tuple xs) = some xs := rfl
theorem add_int : oAdd (.int a) (.int b) = some (.fz (.int (a + b))) := rfl
theorem add_tup : oAdd (.tuple xs) (.tuple ys) = if xs.length + ys.length ≤ 16777216 then some (.fz (.tuple (xs ++ ys))) else none := rfl
theorem add_list : oAdd (.list xs) (.list ys) = if xs.length + ys.length ≤ 16777216 then some (.ow (xs ++ ys)) else none := rfl
theorem sub_int : oSub (.int a) (.int b) = some (.fz (.int (a - b))) := rfl
theorem mul_int : oMul (.int a) (.int b) = if (intIn a || intIn b) = true then some (.fz (.int (a * b))) else none := rfl
theorem mul_tup : oMul (.tuple xs) (.int b) = if 0 ≤ b ∧ b ≤ 1000 ∧ xs.length ≤ 1000 then some (.fz (.tuple (List.replicate b.toNat xs).flatten)) else none := rfl
theorem mul_list : oMul (.list xs) (.int b) = if (small b && decide (xs.length * b.toNat ≤ 16777216)) = true then some (.ow (List.replicate b.toNat xs).flatten) else none := rfl
theorem mod_int : oMod (.int a) (.int b) = if 0 < b then some (.fz (.int (a % b))) else none := rfl
theorem fdiv_int : oFdiv (.int a) (.int b) = if 0 < b ∧ b < 1073741824 then some (.fz (.int (a / b))) else none := rfl
theorem neg_int : oNeg (.int a) = some (.fz (.int (-a))) := rfl
theorem lt_int : oLt (.int a) (.int b) = some (.fz (.bool (decide (a < b)))) := rfl
theorem le_int : oLe (.int a) (.int b) = some (.fz (.bool (decide (a ≤ b)))) := rfl
theorem gt_int : oGt (.int a) (.int b) = some (.fz (.bool (decide (b < a)))) := rfl
theorem ge_int : oGe (.int a) (.int b) = some (.fz (.bool (decide (b ≤ a)))) := rfl
theorem eq_int : oEq (.int a) (.int b) = some (.fz (.bool (decide (a = b)))) := rfl
theorem ne_int : oNe (.int a) (.int b) = some (.fz (.bool (!decide (a = b)))) := rfl
theorem eq_tup : oEq (.tuple xs) e = if cmpOk (.tuple xs) e = true then some (.fz (.bool (PyData.eqv (.tuple xs) e))) else none := by
  show Option.map _ (if _ then _ else _) = _
  split <;> rfl
theorem eq_list : oEq (.list xs) e = if cmpOk (.list xs) e = true then some (.fz (.bool (PyData.eqv (.list xs) e))) else none := by
  show Option.map _ (if _ then _ else _) = _
  split <;> rfl
theorem ne_tup : oNe (.tuple xs) e = if cmpOk (.tuple xs) e = true then some (.fz (.bool (!PyData.eqv (.tuple xs) e))) else none := by
  show Option.map _ (if _ then _ else _) = _
  split <;> rfl
theorem ne_list : oNe (.list xs) e = if cmpOk (.list xs) e = true then some (.fz (.bool (!PyData.eqv (.list xs) e))) else none := by
  show Option.map _ (if _ then _ else _) = _
  split <;> rfl
theorem eq_none : oEq .none e = if cmpOk .none e = true then some (.fz (.bool (PyData.eqv .none e))) else none := by
  show Option.map _ (if _ then _ else _) = _
  split <;> rfl
theorem ne_none : oNe .none e = if cmpOk .none e = true then some (.fz (.bool (!PyData.eqv .none e))) else none := by
  show Option.map _ (if _ then _ else _) = _
  split <;> rfl
theorem eq_strs {x y : Str} : oEq (.str x) (.str y) = some (.fz (.bool (PyData.eqv (.str x) (.str y)))) := by
  have h : cmpOk (.str x) (.str y) = true := by
    show (true && true && decide (min (PyData.depth (.str x)) (PyData.depth (.str y)) ≤ 64)) = true
    simp [PyData.depth]
  have e : eqD (.str x) (.str y) = some (PyData.eqv (.str x) (.str y)) := if_pos (e := none) h
  unfold oEq
  rw [e]
  rfl
theorem is_non : oIs d .none = some (.fz (.bool (isNon d))) := rfl
theorem isnot_non : oIsNot d .none = some (.fz (.bool (!isNon d))) := rfl
theorem sl_list {lo hi : Option Int} : oSl (.list xs) lo hi = some (.ow (cutD xs lo hi)) := rfl
theorem sl_tup {lo hi : Option Int} : oSl (.tuple xs) lo hi = some (.fz (.tuple (cutD xs lo hi))) := rfl
theorem len_list : oLen [.list xs] = some (.fz (.int xs.length)) := rfl
theorem len_tup : oLen [.tuple xs] = some (.fz (.int xs.length)) := rfl
theorem int_int : oInt [.int a] = some (.fz (.int a)) := rfl
theorem abs_int : oAbs [.int a] = some (.fz (.int (if a < 0 then -a else a))) := rfl
theorem max_2 : oMax [.int a, .int b] = some (.fz (.int (max a b))) := rfl
theorem max_3 {c : Int} : oMax [.int a, .int b, .int c] = some (.fz (.int (max (max a b) c))) := rfl
theorem min_2 : oMin [.int a, .int b] = some (.fz (.int (min a b))) := rfl
theorem min_3 {c : Int} : oMin [.int a, .int b, .int c] = some (.fz (.int (min (min a b) c))) := rfl
theorem tuple_list : oTuple [.list xs] = some (.fz (.tuple xs)) := rfl
theorem tuple_tup : oTuple [.tuple xs] = some (.fz (.tuple xs)) := rfl
theorem list_list : oList [.list xs] = some (.ow xs) := rfl
theorem list_tup : oList [.tuple xs] = some (.ow xs) := rfl
theorem app_D {ds : List D} : appD d ds = if ds.length < 16777216 then some ((), ds ++ [d]) else none := rfl
theorem ins_D {ds : List D} : insD (.int a) d ds = if 0 ≤ a ∧ a ≤ 1000000 ∧ ds.length < 16777216 then some ((), ds.take a.toNat ++ d :: ds.drop a.toNat) else none := rfl
end
end FK
namespace FK
open PySem
/-! ### items -/
theorem ixD_nat {n k : Nat} (h : k < n) : ixD n (k : Int) = some k := by
  unfold ixD L2.ixN
  rw [if_pos (by omega), if_pos (by omega), Int.toNat_natCast]
theorem oIx_list {xs : List D} {i : Int} : oIx (.list xs) (.int i) = (getAt i xs).map .fz := rfl
theorem oIx_tup {xs : List D} {i : Int} : oIx (.tuple xs) (.int i) = (getAt i xs).map .fz := rfl
theorem getAt_nat {xs : List D} {k : Nat} {d : D} (h : xs[k]? = some d) : getAt (k : Int) xs = some d := by
  have hk : k < xs.length := (List.getElem?_eq_some_iff.mp h).1
  unfold getAt
  rw [ixD_nat hk]
  exact h
theorem getAt_int {xs : List D} {k : Nat} {i : Int} {d : D} (e : i = (k : Int)) (h : xs[k]? = some d) : getAt i xs = some d := by
  rw [e]; exact getAt_nat h
theorem getAt_0 {x : D} {xs : List D} : getAt 0 (x :: xs) = some x := getAt_nat (k := 0) rfl
theorem getAt_1 {x y : D} {xs : List D} : getAt 1 (x :: y :: xs) = some y := getAt_nat (k := 1) rfl
theorem getAt_2 {x y z : D} {xs : List D} : getAt 2 (x :: y :: z :: xs) = some z := getAt_nat (k := 2) rfl
theorem getAt_3 {x y z u : D} {xs : List D} : getAt 3 (x :: y :: z :: u :: xs) = some u := getAt_nat (k := 3) rfl
theorem getAt_neg {xs : List D} {k : Nat} {d : D} (hk : 0 < k) (hl : k ≤ xs.length) (h : xs[xs.length - k]? = some d) : getAt (-(k : Int)) xs = some d := by
  unfold getAt ixD L2.ixN
  rw [if_neg (by omega), if_pos (by omega)]
  show xs[(-(k : Int) + (xs.length : Int)).toNat]? = some d
  rw [show (-(k : Int) + (xs.length : Int)).toNat = xs.length - k by omega]
  exact h
theorem getAt_last {xs : List D} {x : D} : getAt (-1) (xs ++ [x]) = some x := getAt_neg (k := 1) (by omega) (by simp) (by simp)
theorem getAt_last' {xs : List D} (h : xs ≠ []) : getAt (-1) xs = some (xs.getLast h) := by
  conv => lhs; rw [← List.dropLast_concat_getLast h]
  exact getAt_last
theorem putAt_nat {d : D} {xs : List D} {k : Nat} (h : k < xs.length) : putAt d (.int (k : Int)) xs = some ((), xs.set k d) := by
  show (ixD xs.length (k : Int)).map _ = _
  rw [ixD_nat h]
  rfl
theorem putAt_0 {d x : D} {xs : List D} : putAt d (.int 0) (x :: xs) = some ((), d :: xs) := putAt_nat (k := 0) (by simp)
theorem putAt_1 {d x y : D} {xs : List D} : putAt d (.int 1) (x :: y :: xs) = some ((), x :: d :: xs) := putAt_nat (k := 1) (by simp)
theorem putAt_2 {d x y z : D} {xs : List D} : putAt d (.int 2) (x :: y :: z :: xs) = some ((), x :: y :: d :: xs) := putAt_nat (k := 2) (by simp)
theorem small_nat {k : Nat} (h : k ≤ 1000000) : small (k : Int) = true := by
  unfold small; exact decide_eq_true (by omega)
theorem small_of {i : Int} (h1 : -1000000 ≤ i) (h2 : i ≤ 1000000) : small i = true := by
  unfold small; exact decide_eq_true ⟨h1, h2⟩
theorem rngOf1 {n : Nat} (h : n ≤ 1000000) : rngOf [.int (n : Int)] = some ((List.range n).map fun (k : Nat) => PyData.int (k : Int)) := by
  show (if small (n : Int) then some (rng 0 1 (n : Int).toNat) else none) = _
  rw [if_pos (small_nat h), Int.toNat_natCast]
  unfold rng
  congr 2
  funext k
  congr 1
  omega
theorem rngOf2 {a b : Nat} (h : a ≤ 1000000) (h2 : b ≤ 1000000) : rngOf [.int (a : Int), .int (b : Int)] = some ((List.range' a (b - a)).map fun (k : Nat) => PyData.int (k : Int)) := by
  show (if (small (a : Int) && small (b : Int)) = true then some (rng a 1 ((b : Int) - (a : Int)).toNat) else none) = _
  rw [small_nat h, small_nat h2, Bool.and_self, if_pos rfl]
  unfold rng
  rw [show ((b : Int) - (a : Int)).toNat = b - a by omega, List.range'_eq_map_range, List.map_map]
  congr 2
  funext k
  show PyData.int _ = PyData.int _
  congr 1
  push_cast
  omega
/-- range(n - 1, -1, -1) -/
theorem rngOf3 {n : Nat} (h : n ≤ 1000000) : rngOf [.int ((n : Int) - 1), .int (-1), .int (-1)] = some ((List.range n).reverse.map fun (k : Nat) => PyData.int (k : Int)) := by
  show (if (small ((n : Int) - 1) && small (-1) && decide ((-1 : Int) = -1)) = true then some (rng ((n : Int) - 1) (-1) (((n : Int) - 1) - (-1)).toNat) else none) = _
  rw [small_of (by omega) (by omega), small_of (by omega) (by omega), if_pos (by decide)]
  unfold rng
  rw [show (((n : Int) - 1) - (-1)).toNat = n by omega]
  congr 1
  apply List.ext_getElem
  · simp
  · intro i h1 h2
    simp only [List.length_map, List.length_range] at h1
    simp only [List.getElem_map, List.getElem_range, List.getElem_reverse, List.length_range]
    congr 1
    omega
theorem enumL_eq {α : Type} (enc : α → D) : ∀ (xs : List α) (k : Nat), enumL (k : Int) (xs.map enc) = (xs.zipIdx k).map fun q => PyData.tuple [.int (q.2 : Int), enc q.1]
  | [], k => rfl
  | x :: xs, k => by
    rw [List.map_cons, List.zipIdx_cons, List.map_cons]
    show PyData.tuple [.int (k : Int), enc x] :: enumL ((k : Int) + 1) (xs.map enc) = _
    rw [show ((k : Int) + 1) = ((k + 1 : Nat) : Int) by omega, enumL_eq enc xs (k + 1)]
theorem zipL_eq {α β : Type} (ea : α → D) (eb : β → D) : ∀ (xs : List α) (ys : List β), zipL (xs.map ea) (ys.map eb) = (xs.zip ys).map fun q => PyData.tuple [ea q.1, eb q.2]
  | [], _ => by simp [zipL]
  | _ :: _, [] => by simp [zipL]
  | x :: xs, y :: ys => by
    rw [List.map_cons, List.map_cons, List.zip_cons_cons, List.map_cons]
    show PyData.tuple [ea x, eb y] :: zipL _ _ = _
    rw [zipL_eq ea eb xs ys]
theorem szOk_of {α : Type} {ds : List α} (h : ds.length ≤ 16777216) : szOk ds = true := decide_eq_true h
theorem cut_tail {ds : List D} : cutD ds (some 1) none = ds.drop 1 := by
  unfold cutD
  rw [show HT.sIx ds.length 0 (some 1) = min 1 ds.length from HT.sIx_nat ds.length 0 1, HT.sIx_none]
  cases ds with
  | nil => rfl
  | cons x r =>
    rw [show min 1 (x :: r).length = 1 by rw [List.length_cons]; omega]
    show List.take ((x :: r).length - 1) r = r
    rw [List.length_cons, Nat.add_sub_cancel]
    exact List.take_length
theorem flat1 {α β : Type} {f : α → β} : ∀ xs : List α, xs.flatMap (fun a => [f a]) = xs.map f
  | [] => rfl
  | x :: xs => by rw [List.flatMap_cons, flat1 xs]; rfl
theorem flat1' {α β : Type} {f : α → β} (xs : List α) : xs.flatMap (fun a => [f a]) = xs.map f := flat1 xs
/-! ### data that may be shown and compared: w, its weight at most, k, its depth at most -/
structure RP (w k : Nat) (d : D) : Prop where
  lay : d.canLay0 = true
  dep : d.depth ≤ k
  wei : d.weight ≤ w
  sht : d.intsShort 13 = true
  sho : d.showable = true
theorem RP.mono {w w' k k' : Nat} {d : D} (h : RP w k d) (hw : w ≤ w') (hk : k ≤ k') : RP w' k' d := ⟨h.lay, Nat.le_trans h.dep hk, Nat.le_trans h.wei hw, h.sht, h.sho⟩
theorem rp_none : RP 0 0 .none := ⟨rfl, Nat.le_refl 0, Nat.le_refl 0, rfl, rfl⟩
theorem rp_bool {b : Bool} : RP 0 0 (.bool b) := ⟨rfl, Nat.le_refl 0, Nat.le_refl 0, rfl, rfl⟩
theorem rp_int {i : Int} (h : -99999999999 ≤ i) (h2 : i ≤ 99999999999) : RP 40 0 (.int i) := by
  have hn : i.natAbs < 10 ^ 12 := by
    have : (10 : Nat) ^ 12 = 1000000000000 := by decide
    omega
  have hl : i.natAbs ≠ 0 → i.natAbs.log2 < 39 := fun h0 => (Nat.log2_lt h0).mpr (by
    have : (2 : Nat) ^ 39 = 549755813888 := by decide
    omega)
  have hl2 : i.natAbs.log2 < 39 := by
    by_cases h0 : i.natAbs = 0
    · rw [h0]; decide
    · exact hl h0
  refine ⟨rfl, Nat.le_refl 0, ?_, ?_, ?_⟩
  · show (if (i == 0) = true then 0 else i.natAbs.log2 + 1) ≤ 40
    split <;> omega
  · have := PyData.intsShortAll_ints [i] fun n hm => by rw [List.mem_singleton.mp hm]; exact hn
    have e : (PyData.intsShort 13 (.int i) && true) = true := this
    rwa [Bool.and_true] at e
  · show decide (i.natAbs.log2 < 1920) = true
    exact decide_eq_true (by omega)
theorem RPs.all {w k : Nat} : ∀ {xs : List D}, (∀ x ∈ xs, RP w k x) → PyData.canLayAll0 xs = true ∧ PyData.depthAll xs ≤ k ∧ PyData.weightAll xs ≤ xs.length * (w + 1) ∧ PyData.intsShortAll 13 xs = true ∧ PyData.showableAll xs = true
  | [], _ => ⟨rfl, Nat.zero_le _, Nat.zero_le _, rfl, rfl⟩
  | x :: xs, h => by
    obtain ⟨h1, h2, h3, h4, h5⟩ := RPs.all (xs := xs) fun y hy => h y (List.mem_cons_of_mem _ hy)
    have hx := h x (List.mem_cons_self ..)
    refine ⟨?_, ?_, ?_, ?_, ?_⟩
    · show (x.canLay0 && PyData.canLayAll0 xs) = true
      rw [hx.lay, h1]; rfl
    · show max x.depth (PyData.depthAll xs) ≤ k
      exact Nat.max_le.mpr ⟨hx.dep, h2⟩
    · show x.weight + 1 + PyData.weightAll xs ≤ (xs.length + 1) * (w + 1)
      have := hx.wei
      rw [Nat.add_mul]
      omega
    · show (x.intsShort 13 && PyData.intsShortAll 13 xs) = true
      rw [hx.sht, h4]; rfl
    · show (x.showable && PyData.showableAll xs) = true
      rw [hx.sho, h5]; rfl
theorem rp_tuple {w k n : Nat} {xs : List D} (h : ∀ x ∈ xs, RP w k x) (hn : xs.length ≤ n) : RP (n * (w + 1)) (k + 1) (.tuple xs) := by
  obtain ⟨h1, h2, h3, h4, h5⟩ := RPs.all h
  refine ⟨h1, ?_, Nat.le_trans h3 (Nat.mul_le_mul_right _ hn), h4, h5⟩
  show PyData.depthAll xs + 1 ≤ k + 1
  omega
theorem rp_list {w k n : Nat} {xs : List D} (h : ∀ x ∈ xs, RP w k x) (hn : xs.length ≤ n) : RP (n * (w + 1)) (k + 1) (.list xs) := by
  obtain ⟨h1, h2, h3, h4, h5⟩ := RPs.all h
  refine ⟨h1, ?_, Nat.le_trans h3 (Nat.mul_le_mul_right _ hn), h4, h5⟩
  show PyData.depthAll xs + 1 ≤ k + 1
  omega
theorem RP.repr {w k : Nat} {d : D} (h : RP w k d) (hw : w ≤ 1048576) (hk : k ≤ 60) : reprOk d = true := by
  have lay : PyData.layable0 d = true := by
    show (d.canLay0 && decide (d.depth ≤ 64) && decide (d.weight ≤ 2 ^ 20)) = true
    have h1 := h.dep
    have h2 := h.wei
    have e : (2 : Nat) ^ 20 = 1048576 := by decide
    rw [h.lay, decide_eq_true (by omega : d.depth ≤ 64), decide_eq_true (by omega : d.weight ≤ 2 ^ 20)]
    rfl
  have hs := PyData.shown_le_of_layable0 lay h.sht
  have h1 := h.dep
  unfold reprOk
  rw [PyData.plain_of_canLay0 d h.lay, h.sho, decide_eq_true (by omega : d.shown.length ≤ 16777216), decide_eq_true (by omega : d.depth ≤ 60)]
  rfl
theorem RP.eqv {w k : Nat} {d : D} (h : RP w k d) : PyData.eqv d d = true := SeqAt.eqv_refl_plain d (PyData.plain_of_canLay0 d h.lay)
theorem eqD_same {d : D} (h : d.plain = true) (hd : d.depth ≤ 64) : eqD d d = some true := by
  unfold eqD
  split
  · simp
  · have c : cmpOk d d = true := by
      unfold cmpOk
      rw [h, decide_eq_true (by omega : min d.depth d.depth ≤ 64)]
      rfl
    rw [if_pos c, SeqAt.eqv_refl_plain d h]
theorem RP.eq {w k : Nat} {d : D} (h : RP w k d) (hk : k ≤ 64) : oEq d d = some (.fz (.bool true)) := by
  unfold oEq
  rw [eqD_same (PyData.plain_of_canLay0 d h.lay) (Nat.le_trans h.dep hk)]
  rfl
theorem RP.ne {w k : Nat} {d : D} (h : RP w k d) (hk : k ≤ 64) : oNe d d = some (.fz (.bool false)) := by
  unfold oNe
  rw [eqD_same (PyData.plain_of_canLay0 d h.lay) (Nat.le_trans h.dep hk)]
  rfl
theorem eq_str {x : Str} : oEq (.str x) (.str x) = some (.fz (.bool true)) := by
  unfold oEq
  rw [eqD_same rfl (by simp [PyData.depth])]
  rfl
theorem ne_str {x : Str} : oNe (.str x) (.str x) = some (.fz (.bool false)) := by
  unfold oNe
  rw [eqD_same rfl (by simp [PyData.depth])]
  rfl
/-! ### a list in two parts -/
theorem getAt_mid {A r : List D} {x : D} {i : Int} (h : i = (A.length : Int)) : getAt i (A ++ x :: r) = some x :=
  getAt_int h (by rw [List.getElem?_append_right (Nat.le_refl _), Nat.sub_self]; rfl)
theorem getAt_mid1 {A r : List D} {x y : D} {i : Int} (h : i = (A.length : Int) + 1) : getAt i (A ++ x :: y :: r) = some y :=
  getAt_int (k := A.length + 1) (by omega) (by rw [List.getElem?_append_right (by omega), show A.length + 1 - A.length = 1 by omega]; rfl)
theorem putAt_mid {A r : List D} {x d : D} {i : Int} (h : i = (A.length : Int)) : putAt d (.int i) (A ++ x :: r) = some ((), A ++ d :: r) := by
  rw [h, putAt_nat (by simp)]
  congr 2
  rw [List.set_append_right _ _ (Nat.le_refl _), Nat.sub_self]
  rfl
/-! ### loops over numbers -/
theorem wp_down {t : Tgt} {b : MS} {n : Nat} {Q : Fl → Rho → Prop} (J : Nat → Rho → Prop)
    (step : ∀ j ρ, j < n → J (j + 1) ρ → wp (t.put (.int (j : Int))) ρ fun _ ρ1 => wp b ρ1 fun f ρ2 => match f with
      | .nx => J j ρ2
      | .ct => J j ρ2
      | .bk => Q .nx ρ2
      | .rt v => Q (.rt v) ρ2) (fin : ∀ ρ, J 0 ρ → Q .nx ρ) {ρ : Rho} (h : J n ρ) : wp (forL t b ((List.range n).reverse.map fun (k : Nat) => PyData.int (k : Int))) ρ Q := by
  refine wp_forL (enc := fun (k : Nat) => PyData.int (k : Int)) (fun _ rest ρ => ∃ p, p ≤ n ∧ rest = (List.range p).reverse ∧ J p ρ) (fun done a rest ρ h => ?_) (fun done ρ h => ?_) _ [] ρ ⟨n, Nat.le_refl _, rfl, h⟩
  · obtain ⟨p, hp, e, hJ⟩ := h
    cases p with
    | zero => cases e
    | succ p =>
      rw [List.range_succ, List.reverse_append] at e
      obtain ⟨rfl, rfl⟩ := List.cons.inj e
      refine (step a ρ (by omega) hJ).mono fun _ ρ1 h1 => h1.mono fun f ρ2 h2 => ?_
      cases f with
      | nx => exact ⟨a, by omega, rfl, h2⟩
      | ct => exact ⟨a, by omega, rfl, h2⟩
      | bk => exact h2
      | rt v => exact h2
  · obtain ⟨p, hp, e, hJ⟩ := h
    cases p with
    | zero => exact fin ρ hJ
    | succ p =>
      rw [List.range_succ, List.reverse_append] at e
      cases e
theorem wp_up2 {t : Tgt} {b : MS} {a n : Nat} {Q : Fl → Rho → Prop} (J : Nat → Rho → Prop)
    (step : ∀ j ρ, a ≤ j → j < a + n → J j ρ → wp (t.put (.int (j : Int))) ρ fun _ ρ1 => wp b ρ1 fun f ρ2 => match f with
      | .nx => J (j + 1) ρ2
      | .ct => J (j + 1) ρ2
      | .bk => Q .nx ρ2
      | .rt v => Q (.rt v) ρ2) (fin : ∀ ρ, J (a + n) ρ → Q .nx ρ) {ρ : Rho} (h : J a ρ) : wp (forL t b ((List.range' a n).map fun (k : Nat) => PyData.int (k : Int))) ρ Q := by
  refine wp_forL (enc := fun (k : Nat) => PyData.int (k : Int)) (fun _ rest ρ => ∃ p, a ≤ p ∧ p ≤ a + n ∧ rest = List.range' p (a + n - p) ∧ J p ρ) (fun done x rest ρ h => ?_) (fun done ρ h => ?_) _ [] ρ ⟨a, Nat.le_refl _, by omega, by rw [Nat.add_sub_cancel_left], h⟩
  · obtain ⟨p, h1, hp, e, hJ⟩ := h
    obtain ⟨m, hm⟩ : ∃ m, a + n - p = m := ⟨_, rfl⟩
    rw [hm] at e
    cases m with
    | zero => cases e
    | succ m =>
      rw [List.range'_succ] at e
      obtain ⟨rfl, rfl⟩ := List.cons.inj e
      refine (step x ρ h1 (by omega) hJ).mono fun _ ρ1 h1 => h1.mono fun f ρ2 h2 => ?_
      cases f with
      | nx => exact ⟨x + 1, by omega, by omega, by rw [show a + n - (x + 1) = m by omega], h2⟩
      | ct => exact ⟨x + 1, by omega, by omega, by rw [show a + n - (x + 1) = m by omega], h2⟩
      | bk => exact h2
      | rt v => exact h2
  · obtain ⟨p, h1, hp, e, hJ⟩ := h
    obtain ⟨m, hm⟩ : ∃ m, a + n - p = m := ⟨_, rfl⟩
    rw [hm] at e
    cases m with
    | zero =>
      have : p = a + n := by omega
      rw [this] at hJ
      exact fin ρ hJ
    | succ m => rw [List.range'_succ] at e; cases e
theorem wp_up {t : Tgt} {b : MS} {n : Nat} {Q : Fl → Rho → Prop} (J : Nat → Rho → Prop)
    (step : ∀ j ρ, j < n → J j ρ → wp (t.put (.int (j : Int))) ρ fun _ ρ1 => wp b ρ1 fun f ρ2 => match f with
      | .nx => J (j + 1) ρ2
      | .ct => J (j + 1) ρ2
      | .bk => Q .nx ρ2
      | .rt v => Q (.rt v) ρ2) (fin : ∀ ρ, J n ρ → Q .nx ρ) {ρ : Rho} (h : J 0 ρ) : wp (forL t b ((List.range n).map fun (k : Nat) => PyData.int (k : Int))) ρ Q := by
  rw [List.range_eq_range']
  exact wp_up2 J (fun j ρ _ h2 h => step j ρ (by omega) h) (fun ρ h => fin ρ (by rwa [Nat.zero_add] at h)) h
theorem wp_enum {α : Type} {t : Tgt} {b : MS} {enc : α → D} {Q : Fl → Rho → Prop} (I : Nat → List α → Rho → Prop)
    (step : ∀ k a rest ρ, I k (a :: rest) ρ → wp (t.put (.tuple [.int (k : Int), enc a])) ρ fun _ ρ1 => wp b ρ1 fun f ρ2 => match f with
      | .nx => I (k + 1) rest ρ2
      | .ct => I (k + 1) rest ρ2
      | .bk => Q .nx ρ2
      | .rt v => Q (.rt v) ρ2) (fin : ∀ k ρ, I k [] ρ → Q .nx ρ) {xs : List α} {ρ : Rho} (h : I 0 xs ρ) : wp (forL t b (enumL 0 (xs.map enc))) ρ Q := by
  have go : ∀ (xs : List α) (k : Nat) (ρ : Rho), I k xs ρ → wp (forL t b (enumL (k : Int) (xs.map enc))) ρ Q := by
    intro xs
    induction xs with
    | nil => exact fun k ρ h => fin k ρ h
    | cons x xs ih =>
      intro k ρ h
      have ek : ((k : Int) + 1) = ((k + 1 : Nat) : Int) := by omega
      show wp (bnd (t.put (PyData.tuple [.int (k : Int), enc x])) fun _ => bnd b fun f => match f with
        | .nx => forL t b (enumL ((k : Int) + 1) (xs.map enc))
        | .ct => forL t b (enumL ((k : Int) + 1) (xs.map enc))
        | .bk => ret .nx
        | .rt v => ret (.rt v)) ρ Q
      rw [wp_bnd, ek]
      refine (step k x xs ρ h).mono fun _ ρ1 h1 => ?_
      rw [wp_bnd]
      refine h1.mono fun f ρ2 h2 => ?_
      cases f with
      | nx => exact ih (k + 1) ρ2 h2
      | ct => exact ih (k + 1) ρ2 h2
      | bk => exact h2
      | rt v => exact h2
  exact go xs 0 ρ h
theorem wp_zip {α β : Type} {t : Tgt} {b : MS} {ea : α → D} {eb : β → D} {Q : Fl → Rho → Prop} (I : List α → List β → Rho → Prop)
    (step : ∀ x xs y ys ρ, I (x :: xs) (y :: ys) ρ → wp (t.put (.tuple [ea x, eb y])) ρ fun _ ρ1 => wp b ρ1 fun f ρ2 => match f with
      | .nx => I xs ys ρ2
      | .ct => I xs ys ρ2
      | .bk => Q .nx ρ2
      | .rt v => Q (.rt v) ρ2) (fin : ∀ xs ys ρ, xs = [] ∨ ys = [] → I xs ys ρ → Q .nx ρ) : ∀ {xs : List α} {ys : List β} {ρ : Rho}, I xs ys ρ → wp (forL t b (zipL (xs.map ea) (ys.map eb))) ρ Q
  | [], ys, ρ, h => fin _ _ ρ (.inl rfl) h
  | x :: xs, [], ρ, h => fin _ _ ρ (.inr rfl) h
  | x :: xs, y :: ys, ρ, h => by
    show wp (bnd (t.put (PyData.tuple [ea x, eb y])) fun _ => bnd b fun f => match f with
      | .nx => forL t b (zipL (xs.map ea) (ys.map eb))
      | .ct => forL t b (zipL (xs.map ea) (ys.map eb))
      | .bk => ret .nx
      | .rt v => ret (.rt v)) ρ Q
    rw [wp_bnd]
    refine (step x xs y ys ρ h).mono fun _ ρ1 h1 => ?_
    rw [wp_bnd]
    refine h1.mono fun f ρ2 h2 => ?_
    cases f with
    | nx => exact wp_zip I step fin h2
    | ct => exact wp_zip I step fin h2
    | bk => exact h2
    | rt v => exact h2
theorem wp_compZ {α β : Type} {t : Tgt} {c : M Bool} {e : M Val} {vs : List Nat} {ea : α → D} {eb : β → D} {Q : List D → Rho → Prop} {xs : List α} {ys : List β} {ρ : Rho} (g : α → β → List D)
    (step : ∀ x y, (x, y) ∈ xs.zip ys → wp (turn1 t c e (.tuple [ea x, eb y])) ρ fun o ρ1 => o = g x y ∧ wipeR ρ1 vs = ρ) (fin : Q ((xs.zip ys).flatMap fun q => g q.1 q.2) ρ) : wp (compL t c e vs (zipL (xs.map ea) (ys.map eb))) ρ Q := by
  rw [zipL_eq]
  exact wp_compP (enc := fun q : α × β => PyData.tuple [ea q.1, eb q.2]) (g := fun q => g q.1 q.2) (fun a ha => step a.1 a.2 ha) fin
theorem wp_compE {α : Type} {t : Tgt} {c : M Bool} {e : M Val} {vs : List Nat} {ea : α → D} {Q : List D → Rho → Prop} {xs : List α} {ρ : Rho} (g : α → Nat → List D)
    (step : ∀ x k, (x, k) ∈ xs.zipIdx → wp (turn1 t c e (.tuple [.int (k : Int), ea x])) ρ fun o ρ1 => o = g x k ∧ wipeR ρ1 vs = ρ) (fin : Q (xs.zipIdx.flatMap fun q => g q.1 q.2) ρ) : wp (compL t c e vs (enumL 0 (xs.map ea))) ρ Q := by
  rw [show enumL 0 (xs.map ea) = _ from enumL_eq ea xs 0]
  exact wp_compP (enc := fun q : α × Nat => PyData.tuple [.int (q.2 : Int), ea q.1]) (g := fun q => g q.1 q.2) (fun a ha => step a.1 a.2 ha) fin
theorem putAt_mid1 {A r : List D} {x y d : D} {i : Int} (h : i = (A.length : Int) + 1) : putAt d (.int i) (A ++ x :: y :: r) = some ((), A ++ x :: d :: r) := by
  have := putAt_mid (A := A ++ [x]) (r := r) (x := y) (d := d) (i := i) (by rw [h, List.length_append]; rfl)
  rw [List.append_assoc, List.append_assoc] at this
  exact this
theorem rng_from1 {n : Nat} (h : n ≤ 1000000) : rngOf [.int 1, .int (n : Int)] = some ((List.range' 1 (n - 1)).map fun (k : Nat) => PyData.int (k : Int)) := rngOf2 (a := 1) (by omega) h
theorem rng_one {n : Nat} (h : n ≤ 1000000) : rngOf [.int (n : Int)] = some ((List.range n).map fun (k : Nat) => PyData.int (k : Int)) := rngOf1 h
theorem flat1i {α : Type} {f : α → Int} (xs : List α) : xs.flatMap (fun a => [PyData.int (f a)]) = (xs.map f).map PyData.int := by
  rw [flat1, List.map_map]; rfl
end FK

/-! FkQ: rules, more: chains, methods, sorted; data that are what they encode. -/
namespace FK
open PySem
section
variable {ρ : Rho} {Q : Val → Rho → Prop} {QF : Fl → Rho → Prop} {QB : Bool → Rho → Prop}
theorem wp_mChain {f g : D → D → Option Val} {a b c : M Val} : wp (mChain f g a b c) ρ Q = wp a ρ fun x ρ1 => wp b ρ1 fun y ρ2 => wpV (f x.data y.data) fun v => wpV (asBool v.data) fun k => if k = true then wp c ρ2 fun z ρ3 => wpV (g y.data z.data) fun v => Q v ρ3 else Q (.fz (.bool false)) ρ2 := by
  unfold mChain
  rw [wp_bnd]
  refine wp_fun fun x ρ1 => ?_
  rw [wp_bnd]
  refine wp_fun fun y ρ2 => ?_
  rw [wp_bnd, wp_lift]
  cases f x.data y.data with
  | none => rfl
  | some v =>
    show wpV (asBool v.data) _ = wpV (asBool v.data) _
    cases asBool v.data with
    | none => rfl
    | some k =>
      cases k with
      | false => rfl
      | true =>
        show wp (bnd c _) ρ2 Q = wp c ρ2 _
        rw [wp_bnd]
        refine wp_fun fun z ρ3 => ?_
        rw [wp_lift]
theorem wp_mMeth {f : D → D → Option Val} {a b : Opd} : wp (mMeth f a b) ρ Q = wp a.run ρ fun x ρ1 => wp (a.get x) ρ1 fun d0 ρ2 => ¬ seqK d0 = 2 ∧ wp b.run ρ2 fun y ρ3 => wp (a.get x) ρ3 fun d ρ4 => wp (b.get y) ρ4 fun e ρ5 => seqK d0 = seqK d ∧ wpV (f d e) fun v => Q v ρ5 := by
  unfold mMeth
  rw [wp_bnd]
  refine wp_fun fun x ρ1 => ?_
  rw [wp_bnd]
  refine wp_fun fun d0 ρ2 => ?_
  by_cases h : seqK d0 = 2
  · rw [wp_of (if_pos h)]
    simp [h, wp_stop]
  · rw [wp_of (if_neg h), wp_bnd]
    simp only [h, not_false_eq_true, true_and]
    refine wp_fun fun y ρ3 => ?_
    rw [wp_bnd]
    refine wp_fun fun d ρ4 => ?_
    rw [wp_bnd]
    refine wp_fun fun e ρ5 => ?_
    by_cases h2 : seqK d0 = seqK d
    · rw [wp_of (if_pos h2), wp_lift]
      simp only [h2, true_and]
    · rw [wp_of (if_neg h2)]
      simp [h2, wp_stop]
theorem wp_mSortRow {r : Nat} {a : Opd} : wp (mSortRow r a) ρ Q = wp a.run ρ fun x ρ1 => wp (a.get x) ρ1 fun d ρ2 => wp (peek r) ρ2 fun row ρ3 => wpV (oSortRow row d) fun v => Q v ρ3 := by
  unfold mSortRow
  rw [wp_bnd]
  refine wp_fun fun x ρ1 => ?_
  rw [wp_bnd]
  refine wp_fun fun d ρ2 => ?_
  rw [wp_bnd]
  refine wp_fun fun row ρ3 => ?_
  rw [wp_lift]
theorem wp_sExt {i : Nat} {m : M Val} : wp (sExt i m) ρ QF = wp (chk i) ρ fun _ ρ1 => wp m ρ1 fun v ρ2 => wp (chg i (extD v.data)) ρ2 fun _ ρ3 => QF .nx ρ3 := by
  unfold sExt
  rw [wp_bnd]
  refine wp_fun fun _ ρ1 => ?_
  rw [wp_bnd]
  refine wp_fun fun v ρ2 => ?_
  rw [wp_bnd]
  rfl
theorem wp_mPop {i : Nat} : wp (mPop i) ρ Q = wp (chk i) ρ fun _ ρ1 => wp (chg i popD) ρ1 fun d ρ2 => Q (.fz d) ρ2 := by
  unfold mPop
  rw [wp_bnd]
  refine wp_fun fun _ ρ1 => ?_
  rw [wp_bnd]
  rfl
theorem wp_mPopAt {i : Nat} {k : M Val} : wp (mPopAt i k) ρ Q = wp (chk i) ρ fun _ ρ1 => wp k ρ1 fun v ρ2 => wp (chg i (popAtD v.data)) ρ2 fun d ρ3 => Q (.fz d) ρ3 := by
  unfold mPopAt
  rw [wp_bnd]
  refine wp_fun fun _ ρ1 => ?_
  rw [wp_bnd]
  refine wp_fun fun v ρ2 => ?_
  rw [wp_bnd]
  rfl
end
section
variable {ρ : Rho} {QU : Unit → Rho → Prop} {QF : Fl → Rho → Prop}
theorem wp_putX_tg {t : Tgt} {d : D} : wp ((TgX.tg t).put d) ρ QU = wp (t.put d) ρ QU := rfl
theorem wp_putX_ix {i : Nat} {e : M Val} {d : D} : wp ((TgX.ix i e).put d) ρ QU = wp (chk i) ρ fun _ ρ1 => wp e ρ1 fun k ρ2 => wp (chg i (putAt d k.data)) ρ2 QU := by
  show wp (bnd (chk i) fun _ => bnd e fun k => chg i (putAt d k.data)) ρ QU = _
  rw [wp_bnd]
  refine wp_fun fun _ ρ1 => ?_
  rw [wp_bnd]
theorem wp_putXs_nil : wp (putXs [] []) ρ QU = QU () ρ := rfl
theorem wp_putXs_cons {t : TgX} {ts : List TgX} {d : D} {ds : List D} : wp (putXs (t :: ts) (d :: ds)) ρ QU = wp (t.put d) ρ fun _ ρ1 => wp (putXs ts ds) ρ1 QU := by
  show wp (bnd (t.put d) fun _ => putXs ts ds) ρ QU = _
  rw [wp_bnd]
/-- a tuple, as items -/
def tupOf : D → Option (List D)
  | .tuple ds => some ds
  | _ => none
theorem tupOf_tup {ds : List D} : tupOf (.tuple ds) = some ds := rfl
theorem wp_sPutX {ts : List TgX} {m : M Val} : wp (sPutX ts m) ρ QF = wp m ρ fun v ρ1 => wpV (tupOf v.data) fun ds => ds.length = ts.length ∧ wp (putXs ts ds) ρ1 fun _ ρ2 => QF .nx ρ2 := by
  unfold sPutX
  rw [wp_bnd]
  refine wp_fun fun v ρ1 => ?_
  cases v.data with
  | tuple ds =>
    show wp (if ds.length = ts.length then _ else stop) ρ1 QF = (ds.length = ts.length ∧ _)
    rw [wp_ite]
    by_cases h : ds.length = ts.length
    · rw [if_pos h, wp_bnd]
      simp only [h, true_and]
      rfl
    · rw [if_neg h]
      simp only [h, false_and]
      rfl
  | _ => rfl
end
theorem wp_mCompB {i : Nat} {en : Bool} {vs : List Nat} {t : Tgt} {c : M Bool} {e : M Val} {ρ : Rho} {Q : Val → Rho → Prop} : wp (mCompB i en vs t c e) ρ Q = match ρ[i]? with
    | some (some (.ow ds)) => noOw (ρ.set i none) vs = true ∧ wp (compL t c e vs (if en then enumL 0 ds else ds)) (wipeR (ρ.set i none) vs) fun r ρ2 => Q (.ow r) ((restore (ρ.set i none) ρ2 vs).set i (some (.ow ds)))
    | _ => False := by
  unfold mCompB
  rcases hz : ρ[i]? with _ | _ | (d | ds | kvs)
  · simp only [wp, hz]
  · simp only [wp, hz]
  · simp only [wp, hz]
  · have e1 : wp (mComp vs (ret (if en then enumL 0 ds else ds)) t c e) (ρ.set i none) (fun v ρ' => Q v (ρ'.set i (some (.ow ds)))) = (noOw (ρ.set i none) vs = true ∧ wp (compL t c e vs (if en then enumL 0 ds else ds)) (wipeR (ρ.set i none) vs) fun r ρ2 => Q (.ow r) ((restore (ρ.set i none) ρ2 vs).set i (some (.ow ds)))) := wp_mComp
    refine Eq.trans ?_ e1
    unfold wp
    simp only [hz]
    cases mComp vs (ret (if en then enumL 0 ds else ds)) t c e (ρ.set i none) <;> rfl
  · simp only [wp, hz]
/-- while, with a measure -/
theorem wp_while {c : M Bool} {b : MS} {Q : Fl → Rho → Prop} (J : Nat → Rho → Prop)
    (step : ∀ m ρ, J m ρ → wp c ρ fun t ρ1 => (t = true → wp b ρ1 fun f ρ2 => match f with
      | .nx => ∃ m', m' < m ∧ J m' ρ2
      | .ct => ∃ m', m' < m ∧ J m' ρ2
      | .bk => Q .nx ρ2
      | .rt v => Q (.rt v) ρ2) ∧ (t = false → Q .nx ρ1)) : ∀ (n m : Nat) (ρ : Rho), m < n → J m ρ → wp (whileL c b n) ρ Q
  | 0, m, ρ, h, _ => absurd h (Nat.not_lt_zero m)
  | n + 1, m, ρ, h, hJ => by
    show wp (bnd c fun t => if t then bnd b fun f => match f with
      | .nx => whileL c b n
      | .ct => whileL c b n
      | .bk => ret .nx
      | .rt v => ret (.rt v) else ret .nx) ρ Q
    rw [wp_bnd]
    refine (step m ρ hJ).mono fun t ρ1 h1 => ?_
    cases t with
    | false => exact h1.2 rfl
    | true =>
      show wp (bnd b _) ρ1 Q
      rw [wp_bnd]
      refine (h1.1 rfl).mono fun f ρ2 h2 => ?_
      cases f with
      | nx =>
        obtain ⟨m', hm, hJ'⟩ := h2
        exact wp_while J step n m' ρ2 (by omega) hJ'
      | ct =>
        obtain ⟨m', hm, hJ'⟩ := h2
        exact wp_while J step n m' ρ2 (by omega) hJ'
      | bk => exact h2
      | rt v => exact h2
theorem dat_od {kvs : List (D × D)} : (Val.od kvs).data = .dict kvs := rfl
theorem isOwn_fz {d : D} : isOwn (some (some (.fz d))) = false := rfl
theorem isOwn_ow {ds : List D} : isOwn (some (some (.ow ds))) = true := rfl
theorem isOwn_od {kvs : List (D × D)} : isOwn (some (some (.od kvs))) = true := rfl
theorem isOwn_none : isOwn (some none) = false := rfl
theorem isOw_od {kvs : List (D × D)} : isOw (some (some (.od kvs))) = false := rfl
theorem seqK_list {ds : List D} : seqK (.list ds) = 0 := rfl
theorem seqK_tup {ds : List D} : seqK (.tuple ds) = 1 := rfl
theorem ext_D {d : D} {ds : List D} : extD d ds = (seqOf d).bind fun es => if ds.length + es.length ≤ 16777216 then some ((), ds ++ es) else none := rfl
theorem ext_list {es ds : List D} : extD (.list es) ds = if ds.length + es.length ≤ 16777216 then some ((), ds ++ es) else none := rfl
theorem ext_tup {es ds : List D} : extD (.tuple es) ds = if ds.length + es.length ≤ 16777216 then some ((), ds ++ es) else none := rfl
theorem inst_int {i : Int} {T : Ty} : oInst T (.int i) = some (.fz (.bool (match T with | .int => true | _ => false))) := rfl

/-! ### data that are what they encode -/
structure Good {α : Type} [DecidableEq α] (e : α → D) (k : Nat) : Prop where
  pl : ∀ a, (e a).plain = true
  dp : ∀ a, (e a).depth ≤ k
  eq : ∀ a b, PyData.eqv (e a) (e b) = decide (a = b)
section
variable {α β γ : Type} [DecidableEq α] [DecidableEq β] [DecidableEq γ] {e : α → D} {f : β → D} {g : γ → D} {k : Nat}
theorem goodI : Good PyData.int 0 := ⟨fun _ => rfl, fun _ => Nat.le_refl 0, fun a b => rfl⟩
theorem goodS : Good PyData.str 0 := ⟨fun _ => rfl, fun _ => Nat.le_refl 0, fun a b => rfl⟩
theorem goodB : Good PyData.bool 0 := ⟨fun _ => rfl, fun _ => Nat.le_refl 0, fun a b => by
  show (a == b) = _
  cases a <;> cases b <;> rfl⟩
theorem Good.up (h : Good e k) {j : Nat} (hj : k ≤ j) : Good e j := ⟨h.pl, fun a => Nat.le_trans (h.dp a) hj, h.eq⟩
theorem Good.plA (h : Good e k) : ∀ l : List α, PyData.plainAll (l.map e) = true
  | [] => rfl
  | a :: l => by
    show ((e a).plain && PyData.plainAll (l.map e)) = true
    rw [h.pl, h.plA l]
    rfl
theorem Good.dpA (h : Good e k) : ∀ l : List α, PyData.depthAll (l.map e) ≤ k
  | [] => Nat.zero_le _
  | a :: l => by
    show max (e a).depth (PyData.depthAll (l.map e)) ≤ k
    exact Nat.max_le.mpr ⟨h.dp a, h.dpA l⟩
theorem Good.eqA (h : Good e k) : ∀ l m : List α, PyData.eqvAll (l.map e) (m.map e) = decide (l = m)
  | [], [] => rfl
  | [], _ :: _ => rfl
  | _ :: _, [] => rfl
  | a :: l, b :: m => by
    show (PyData.eqv (e a) (e b) && PyData.eqvAll (l.map e) (m.map e)) = _
    rw [h.eq, h.eqA l m]
    simp
theorem Good.tup (h : Good e k) : Good (fun l : List α => PyData.tuple (l.map e)) (k + 1) := ⟨h.plA, fun l => Nat.succ_le_succ (h.dpA l), h.eqA⟩
theorem Good.lst (h : Good e k) : Good (fun l : List α => PyData.list (l.map e)) (k + 1) := ⟨h.plA, fun l => Nat.succ_le_succ (h.dpA l), h.eqA⟩
theorem Good.pair {j : Nat} (h : Good e k) (h' : Good f j) : Good (fun p : α × β => PyData.tuple [e p.1, f p.2]) (max k j + 1) := ⟨fun p => by
    show ((e p.1).plain && ((f p.2).plain && true)) = true
    rw [h.pl, h'.pl]
    rfl, fun p => by
    have h1 := h.dp p.1
    have h2 := h'.dp p.2
    show max (e p.1).depth (max (f p.2).depth 0) + 1 ≤ _
    omega, fun p q => by
    show (PyData.eqv (e p.1) (e q.1) && (PyData.eqv (f p.2) (f q.2) && true)) = _
    rw [h.eq, h'.eq]
    obtain ⟨a, b⟩ := p
    obtain ⟨c, d⟩ := q
    simp⟩
theorem Good.cmp (h : Good e k) (hk : k ≤ 60) (a b : α) : cmpOk (e a) (e b) = true := by
  unfold cmpOk
  have := h.dp a
  rw [h.pl, h.pl, decide_eq_true (by omega : min (e a).depth (e b).depth ≤ 64)]
  rfl
theorem Good.eqD (h : Good e k) (hk : k ≤ 60) (a b : α) : eqD (e a) (e b) = some (decide (a = b)) := by
  unfold FK.eqD
  split
  · rename_i i j h1 h2
    have := h.eq a b
    rw [h1, h2] at this
    rw [← this]
    rfl
  · rw [if_pos (h.cmp hk a b), h.eq]
theorem Good.oEq (h : Good e k) (hk : k ≤ 60) (a b : α) : oEq (e a) (e b) = some (.fz (.bool (decide (a = b)))) := by
  unfold FK.oEq
  rw [h.eqD hk]
  rfl
theorem Good.oNe (h : Good e k) (hk : k ≤ 60) (a b : α) : oNe (e a) (e b) = some (.fz (.bool (!decide (a = b)))) := by
  unfold FK.oNe
  rw [h.eqD hk]
  rfl
theorem Good.inOk (h : Good e k) (hk : k ≤ 60) (l : List α) (a : α) : inOk (l.map e) (e a) = true := by
  unfold FK.inOk
  have := h.dp a
  rw [h.plA, h.pl, decide_eq_true (by omega : min (PyData.depthAll (l.map e)) (e a).depth ≤ 60)]
  rfl
theorem Good.any (h : Good e k) (a : α) : ∀ l : List α, ((l.map e).any fun y => PyData.eqv y (e a)) = decide (a ∈ l)
  | [] => rfl
  | b :: l => by
    rw [List.map_cons, List.any_cons, h.any a l, h.eq]
    by_cases c : b = a
    · simp [c]
    · have c' : ¬ a = b := fun z => c z.symm
      simp [c, c']
theorem Good.cnt (h : Good e k) (a : α) : ∀ l : List α, ((l.map e).countP fun y => PyData.eqv y (e a)) = l.count a
  | [] => rfl
  | b :: l => by
    rw [List.map_cons, List.countP_cons, h.cnt a l, h.eq, List.count_cons]
    by_cases c : b = a <;> simp [c]
theorem Good.inL (h : Good e k) (hk : k ≤ 60) (l : List α) (a : α) : oIn (e a) (.list (l.map e)) = some (.fz (.bool (decide (a ∈ l)))) := by
  show (if FK.inOk (l.map e) (e a) = true then _ else _) = _
  rw [if_pos (h.inOk hk l a), h.any]
theorem Good.inT (h : Good e k) (hk : k ≤ 60) (l : List α) (a : α) : oIn (e a) (.tuple (l.map e)) = some (.fz (.bool (decide (a ∈ l)))) := by
  show (if FK.inOk (l.map e) (e a) = true then _ else _) = _
  rw [if_pos (h.inOk hk l a), h.any]
theorem Good.ninL (h : Good e k) (hk : k ≤ 60) (l : List α) (a : α) : oNotIn (e a) (.list (l.map e)) = some (.fz (.bool (!decide (a ∈ l)))) := by
  show (if FK.inOk (l.map e) (e a) = true then _ else _) = _
  rw [if_pos (h.inOk hk l a), h.any]
theorem Good.ninT (h : Good e k) (hk : k ≤ 60) (l : List α) (a : α) : oNotIn (e a) (.tuple (l.map e)) = some (.fz (.bool (!decide (a ∈ l)))) := by
  show (if FK.inOk (l.map e) (e a) = true then _ else _) = _
  rw [if_pos (h.inOk hk l a), h.any]
theorem Good.cntL (h : Good e k) (hk : k ≤ 60) (l : List α) (a : α) : oCount (.list (l.map e)) (e a) = some (.fz (.int (l.count a : Nat))) := by
  show (if FK.inOk (l.map e) (e a) = true then _ else _) = _
  rw [if_pos (h.inOk hk l a), h.cnt]
theorem Good.cntT (h : Good e k) (hk : k ≤ 60) (l : List α) (a : α) : oCount (.tuple (l.map e)) (e a) = some (.fz (.int (l.count a : Nat))) := by
  show (if FK.inOk (l.map e) (e a) = true then _ else _) = _
  rw [if_pos (h.inOk hk l a), h.cnt]
end
/-! ### ints -/
theorem intsOf_map : ∀ l : List Int, intsOf (l.map PyData.int) = some l
  | [] => rfl
  | i :: l => by
    show (intsOf (l.map PyData.int)).map (i :: ·) = _
    rw [intsOf_map l]
    rfl
theorem sum_L (l : List Int) : oSum [.list (l.map .int)] = some (.fz (.int l.sum)) := by
  show (intsOf (l.map PyData.int)).map _ = _
  rw [intsOf_map]
  rfl
theorem sum_T (l : List Int) : oSum [.tuple (l.map .int)] = some (.fz (.int l.sum)) := by
  show (intsOf (l.map PyData.int)).map _ = _
  rw [intsOf_map]
  rfl
theorem place_map {l : List Int} {i : Int} (h : i ∈ l) : placeI (l.map .int) i = some (.fz (.int (l.idxOf i : Nat))) := by
  unfold placeI
  rw [intsOf_map]
  show (if i ∈ l then _ else _) = _
  rw [if_pos h]
theorem idx_L {l : List Int} {i : Int} (h : i ∈ l) : oIndex (.list (l.map .int)) (.int i) = some (.fz (.int (l.idxOf i : Nat))) := place_map h
theorem idx_T {l : List Int} {i : Int} (h : i ∈ l) : oIndex (.tuple (l.map .int)) (.int i) = some (.fz (.int (l.idxOf i : Nat))) := place_map h
theorem all_pair {α : Type} (l : List α) (p : α → α → Bool) (h : ∀ a b, p a b = true) : (l.all fun a => l.all fun b => p a b) = true :=
  List.all_eq_true.mpr fun a _ => List.all_eq_true.mpr fun b _ => h a b
theorem sortOk_ints (l : List Int) : sortOk (l.map .int) = true := by
  unfold sortOk
  have h1 : ((l.map PyData.int).all fun d => (l.map PyData.int).all fun e => PySem.W.alike d e) = true := by
    refine List.all_eq_true.mpr fun a ha => List.all_eq_true.mpr fun b hb => ?_
    obtain ⟨i, _, rfl⟩ := List.mem_map.mp ha
    obtain ⟨j, _, rfl⟩ := List.mem_map.mp hb
    rfl
  have h2 : (l.map PyData.int).all isAtm = true := by
    refine List.all_eq_true.mpr fun a ha => ?_
    obtain ⟨i, _, rfl⟩ := List.mem_map.mp ha
    rfl
  have h3 := goodI.dpA l
  rw [h1, h2, decide_eq_true (by omega : PyData.depthAll (l.map PyData.int) ≤ 60), Bool.or_true]
  rfl
theorem sortD_ints (l : List Int) : sortD (l.map .int) = (l.mergeSort fun a b => decide (a ≤ b)).map .int := by
  have e := PySem.W.dataLe_int (β := Int) id
  refine (PySem.W.sort_maps PyData.int fun a _ b _ => ?_).symm
  exact (congrFun (congrFun e a) b).symm
/-- pairs of ints -/
abbrev prI (p : Int × Int) : D := .tuple [.int p.1, .int p.2]
theorem goodPr : Good prI 1 := goodI.pair goodI
theorem sortOk_prs (l : List (Int × Int)) : sortOk (l.map prI) = true := by
  unfold sortOk
  have h1 : ((l.map prI).all fun d => (l.map prI).all fun e => PySem.W.alike d e) = true := by
    refine List.all_eq_true.mpr fun a ha => List.all_eq_true.mpr fun b hb => ?_
    obtain ⟨i, _, rfl⟩ := List.mem_map.mp ha
    obtain ⟨j, _, rfl⟩ := List.mem_map.mp hb
    rfl
  have h2 : (l.map prI).all isTupN = true := by
    refine List.all_eq_true.mpr fun a ha => ?_
    obtain ⟨i, _, rfl⟩ := List.mem_map.mp ha
    rfl
  have h3 := goodPr.dpA l
  rw [h1, h2, decide_eq_true (by omega : PyData.depthAll (l.map prI) ≤ 60)]
  rfl
def prLe (p q : Int × Int) : Bool := decide (p.1 < q.1 ∨ (p.1 = q.1 ∧ p.2 ≤ q.2))
theorem sortD_prs (l : List (Int × Int)) : sortD (l.map prI) = (l.mergeSort prLe).map prI := by
  have e := PySem.W.dataLe_ii (β := Int × Int) Prod.fst Prod.snd
  refine (PySem.W.sort_maps prI fun a _ b _ => ?_).symm
  exact (congrFun (congrFun e a) b).symm
theorem sorted_Lp (l : List (Int × Int)) : oSorted [.list (l.map prI)] = some (.ow ((l.mergeSort prLe).map prI)) := by
  show (if sortOk (l.map prI) = true then _ else _) = _
  rw [if_pos (sortOk_prs l), sortD_prs]
theorem sorted_Tp (l : List (Int × Int)) : oSorted [.tuple (l.map prI)] = some (.ow ((l.mergeSort prLe).map prI)) := by
  show (if sortOk (l.map prI) = true then _ else _) = _
  rw [if_pos (sortOk_prs l), sortD_prs]
theorem sorted_L (l : List Int) : oSorted [.list (l.map .int)] = some (.ow ((l.mergeSort fun a b => decide (a ≤ b)).map .int)) := by
  show (if sortOk (l.map .int) = true then _ else _) = _
  rw [if_pos (sortOk_ints l), sortD_ints]
theorem sorted_T (l : List Int) : oSorted [.tuple (l.map .int)] = some (.ow ((l.mergeSort fun a b => decide (a ≤ b)).map .int)) := by
  show (if sortOk (l.map .int) = true then _ else _) = _
  rw [if_pos (sortOk_ints l), sortD_ints]
end FK

local macro_rules
  | `(tactic| simp_arith) => `(tactic| simp -implicitDefEqProofs only [FK.wp_bnd, FK.wp_ret, FK.wp_lift, FK.wpV_some, FK.wpV_none, FK.wpV_ite, FK.wpV_map, FK.wp_stop, FK.wp_ite, FK.wp_mC, FK.wp_mV, FK.wp_mMove, FK.wp_peek, FK.wp_setS, FK.wp_chk, FK.wp_chg', FK.wp_mCall, FK.wp_mCallR, FK.wp_sAug, FK.wp_sAugI, FK.wp_sSeq, FK.wp_mComp, FK.wp_run_nm, FK.wp_run_ex, FK.wp_get_nm, FK.wp_get_ex, FK.wp_mUn, FK.wp_mBin, FK.wp_runs_nil, FK.wp_runs_cons, FK.wp_gets_nil, FK.wp_gets_cons, FK.wp_mFn, FK.wp_it_nil, FK.wp_it_one, FK.wp_it_star, FK.wp_mTup, FK.wp_mLst, FK.wp_mT, FK.wp_mNot, FK.wp_mAnd, FK.wp_mOr, FK.wp_mBl, FK.wp_asT, FK.wp_mAndV, FK.wp_mOrV, FK.wp_mNotB, FK.wp_mIf, FK.wp_mYes, FK.wp_itSeq, FK.wp_itRng, FK.wp_itEnum, FK.wp_itZip, FK.wp_lstRng, FK.wp_tupRng, FK.wp_part_none, FK.wp_part_some, FK.wp_mSl, FK.wp_put_nm, FK.wp_put_tup, FK.wp_putAll_nil, FK.wp_putAll_cons, FK.wp_sNx, FK.wp_sSet, FK.wp_sPut, FK.wp_temps_nil, FK.wp_temps_cons, FK.wp_setAll_nil, FK.wp_setAll_cons, FK.wp_sPar, FK.wp_sDrop, FK.wp_sRet, FK.wp_sIf, FK.wp_sFor, FK.wp_sItem, FK.wp_sApp, FK.wp_sIns, FK.wp_turn1, FK.dat_fz, FK.dat_ow, FK.truth_int, FK.truth_bool, FK.truth_list, FK.truth_tup, FK.asBool_bool, FK.intOf_int, FK.seqOf_list, FK.seqOf_tup, FK.add_int, FK.add_tup, FK.add_list, FK.sub_int, FK.mul_int, FK.mul_tup, FK.mul_list, FK.mod_int, FK.fdiv_int, FK.neg_int, FK.lt_int, FK.le_int, FK.gt_int, FK.ge_int, FK.eq_int, FK.ne_int, FK.is_non, FK.isnot_non, FK.isNon, FK.sl_list, FK.sl_tup, FK.len_list, FK.len_tup, FK.int_int, FK.abs_int, FK.max_2, FK.max_3, FK.min_2, FK.min_3, FK.tuple_list, FK.tuple_tup, FK.list_list, FK.list_tup, FK.app_D, FK.ins_D, FK.oIx_list, FK.oIx_tup, FK.getAt_0, FK.getAt_1, FK.getAt_2, FK.getAt_3, FK.putAt_0, FK.putAt_1, FK.putAt_2, FK.ite_and, if_true, if_false, Bool.false_eq_true, ↓reduceIte, List.getElem?_cons_zero, List.getElem?_cons_succ, List.set_cons_zero, List.set_cons_succ, List.length_cons, List.length_nil, List.length_set, FK.isOw_ow, FK.isOw_fz, FK.isOw_none, Nat.reduceAdd, Nat.reduceLT, Nat.reduceEqDiff, Nat.reduceSub, Int.reduceLT, Int.reduceLE, true_and, and_true, List.map_cons, List.map_nil, List.append_nil, List.nil_append, List.cons_append, List.replicate, FK.wipeR, FK.restore, FK.noOw, List.all_cons, List.all_nil, Bool.not_false, Bool.not_true, Bool.and_true, Bool.and_self, FK.szOk, Nat.reduceLeDiff, Option.getD_some, Option.getD_none, decide_eq_true_eq, Nat.zero_add, FK.out0, List.length_map, FK.isOwn_fz, FK.isOwn_ow, FK.isOwn_od, FK.isOwn_none, FK.isOw_od, FK.dat_od, FK.seqK_list, FK.seqK_tup, FK.ext_list, FK.ext_tup, FK.wp_mChain, FK.wp_mMeth, FK.wp_mSortRow, FK.wp_sExt, FK.wp_mPop, FK.wp_mPopAt, FK.wp_mCompB, FK.wp_sPutX, FK.wp_putXs_nil, FK.wp_putXs_cons, FK.wp_putX_tg, FK.wp_putX_ix, FK.tupOf_tup, not_false_eq_true, FK.inst_int])
  | `(tactic| simp_arith [$as,*]) => `(tactic| simp -implicitDefEqProofs only [FK.wp_bnd, FK.wp_ret, FK.wp_lift, FK.wpV_some, FK.wpV_none, FK.wpV_ite, FK.wpV_map, FK.wp_stop, FK.wp_ite, FK.wp_mC, FK.wp_mV, FK.wp_mMove, FK.wp_peek, FK.wp_setS, FK.wp_chk, FK.wp_chg', FK.wp_mCall, FK.wp_mCallR, FK.wp_sAug, FK.wp_sAugI, FK.wp_sSeq, FK.wp_mComp, FK.wp_run_nm, FK.wp_run_ex, FK.wp_get_nm, FK.wp_get_ex, FK.wp_mUn, FK.wp_mBin, FK.wp_runs_nil, FK.wp_runs_cons, FK.wp_gets_nil, FK.wp_gets_cons, FK.wp_mFn, FK.wp_it_nil, FK.wp_it_one, FK.wp_it_star, FK.wp_mTup, FK.wp_mLst, FK.wp_mT, FK.wp_mNot, FK.wp_mAnd, FK.wp_mOr, FK.wp_mBl, FK.wp_asT, FK.wp_mAndV, FK.wp_mOrV, FK.wp_mNotB, FK.wp_mIf, FK.wp_mYes, FK.wp_itSeq, FK.wp_itRng, FK.wp_itEnum, FK.wp_itZip, FK.wp_lstRng, FK.wp_tupRng, FK.wp_part_none, FK.wp_part_some, FK.wp_mSl, FK.wp_put_nm, FK.wp_put_tup, FK.wp_putAll_nil, FK.wp_putAll_cons, FK.wp_sNx, FK.wp_sSet, FK.wp_sPut, FK.wp_temps_nil, FK.wp_temps_cons, FK.wp_setAll_nil, FK.wp_setAll_cons, FK.wp_sPar, FK.wp_sDrop, FK.wp_sRet, FK.wp_sIf, FK.wp_sFor, FK.wp_sItem, FK.wp_sApp, FK.wp_sIns, FK.wp_turn1, FK.dat_fz, FK.dat_ow, FK.truth_int, FK.truth_bool, FK.truth_list, FK.truth_tup, FK.asBool_bool, FK.intOf_int, FK.seqOf_list, FK.seqOf_tup, FK.add_int, FK.add_tup, FK.add_list, FK.sub_int, FK.mul_int, FK.mul_tup, FK.mul_list, FK.mod_int, FK.fdiv_int, FK.neg_int, FK.lt_int, FK.le_int, FK.gt_int, FK.ge_int, FK.eq_int, FK.ne_int, FK.is_non, FK.isnot_non, FK.isNon, FK.sl_list, FK.sl_tup, FK.len_list, FK.len_tup, FK.int_int, FK.abs_int, FK.max_2, FK.max_3, FK.min_2, FK.min_3, FK.tuple_list, FK.tuple_tup, FK.list_list, FK.list_tup, FK.app_D, FK.ins_D, FK.oIx_list, FK.oIx_tup, FK.getAt_0, FK.getAt_1, FK.getAt_2, FK.getAt_3, FK.putAt_0, FK.putAt_1, FK.putAt_2, FK.ite_and, if_true, if_false, Bool.false_eq_true, ↓reduceIte, List.getElem?_cons_zero, List.getElem?_cons_succ, List.set_cons_zero, List.set_cons_succ, List.length_cons, List.length_nil, List.length_set, FK.isOw_ow, FK.isOw_fz, FK.isOw_none, Nat.reduceAdd, Nat.reduceLT, Nat.reduceEqDiff, Nat.reduceSub, Int.reduceLT, Int.reduceLE, true_and, and_true, List.map_cons, List.map_nil, List.append_nil, List.nil_append, List.cons_append, List.replicate, FK.wipeR, FK.restore, FK.noOw, List.all_cons, List.all_nil, Bool.not_false, Bool.not_true, Bool.and_true, Bool.and_self, FK.szOk, Nat.reduceLeDiff, Option.getD_some, Option.getD_none, decide_eq_true_eq, Nat.zero_add, FK.out0, List.length_map, FK.isOwn_fz, FK.isOwn_ow, FK.isOwn_od, FK.isOwn_none, FK.isOw_od, FK.dat_od, FK.seqK_list, FK.seqK_tup, FK.ext_list, FK.ext_tup, FK.wp_mChain, FK.wp_mMeth, FK.wp_mSortRow, FK.wp_sExt, FK.wp_mPop, FK.wp_mPopAt, FK.wp_mCompB, FK.wp_sPutX, FK.wp_putXs_nil, FK.wp_putXs_cons, FK.wp_putX_tg, FK.wp_putX_ix, FK.tupOf_tup, not_false_eq_true, FK.inst_int, $as,*])

/-! FwA: the defs that the laws share: the bag. -/
namespace FW
open PySem FK
/-! known_sizes : 0 knowledge, 1 word -/
def m_known_sizes : MS := (sRet (mFn oTuple [(.ex (mComp [1] (itSeq (mBin oIx (.nm 0) (.ex (mC (.int 1))))) (.nm 1) mYes (mBin oIx (.nm 1) (.ex (mUn oNeg (.ex (mC (.int 1))))))))]))
def e_known_sizes : FnE := ⟨fnOf 2 m_known_sizes, 1, false⟩
/-! goes_up : 0 word, 1 place -/
def m_goes_up : MS := (sRet (mBin oGt (.ex (mBin oIx (.nm 0) (.ex (mBin oAdd (.nm 1) (.ex (mC (.int 1))))))) (.ex (mBin oIx (.nm 0) (.nm 1)))))
def e_goes_up : FnE := ⟨fnOf 2 m_goes_up, 2, false⟩
/-! is_nested : 0 knowledge, 1 order, 2 words, 3 place, 4 word, 5 other -/
def b1_is_nested : MS := (sIf (mAnd (mT (.ex (mCall e_goes_up [(false, (mV 4)), (false, (mV 3))]))) (mNot (mT (.ex (mCall e_goes_up [(false, (mV 5)), (false, (mV 3))])))))
  (sRet (mC (.bool false)))
  sNx)
def b2_is_nested : MS := (sFor (itZip (mV 2) (mSl (.nm 2) (some (mC (.int 1))) none)) (.tup [(.nm 4), (.nm 5)]) b1_is_nested)
def m_is_nested : MS := (sSeq (sPut (.tup [(.nm 1), (.nm 2)]) (mV 0))
  (sSeq (sFor (itRng [(.ex (mFn oLen [(.nm 1)]))]) (.nm 3) b2_is_nested)
  (sRet (mC (.bool true)))))
def e_is_nested : FnE := ⟨fnOf 6 m_is_nested, 1, false⟩
/-! are_sizes : 0 sizes, 1 many, 2 one, 3 other -/
def m_are_sizes : MS := (sSeq (sIf (mOr (asT (mBin oLt (.ex (mBin oIx (.nm 0) (.ex (mC (.int 0))))) (.ex (mC (.int 0))))) (asT (mBin oGt (.ex (mBin oIx (.nm 0) (.ex (mUn oNeg (.ex (mC (.int 1))))))) (.nm 1))))
  (sRet (mC (.bool false)))
  sNx)
  (sRet (mFn oAll [(.ex (mComp [2, 3] (itZip (mV 0) (mSl (.nm 0) (some (mC (.int 1))) none)) (.tup [(.nm 2), (.nm 3)]) mYes (mBin oLe (.nm 2) (.nm 3))))])))
def e_are_sizes : FnE := ⟨fnOf 4 m_are_sizes, 2, false⟩
/-! stepped : 0 row, 1 size, 2 many, 3 found, 4 place, 5 item -/
def b1_stepped : MS := (sApp 3 (mFn oMax [(.ex (mBin oIx (.nm 3) (.ex (mUn oNeg (.ex (mC (.int 1))))))), (.nm 5), (.ex (mBin oAdd (.ex (mBin oSub (.nm 1) (.nm 2))) (.nm 4)))]))
def b2_stepped : MS := (sItem 3 (mV 4) (mFn oMax [(.ex (mBin oIx (.nm 3) (.nm 4))), (.ex (mBin oSub (.ex (mBin oIx (.nm 3) (.ex (mBin oAdd (.nm 4) (.ex (mC (.int 1))))))) (.ex (mC (.int 1)))))]))
def m_stepped : MS := (sSeq (sPar [2, 3] [(mBin oSub (.ex (mFn oLen [(.nm 0)])) (.ex (mC (.int 1)))), (mLst [(false, (mC (.int 0)))])])
  (sSeq (sFor (itEnum (mV 0)) (.tup [(.nm 4), (.nm 5)]) b1_stepped)
  (sSeq (sSet 3 (mSl (.nm 3) (some (mC (.int 1))) none))
  (sSeq (sFor (itRng [(.ex (mBin oSub (.nm 2) (.ex (mC (.int 1))))), (.ex (mUn oNeg (.ex (mC (.int 1))))), (.ex (mUn oNeg (.ex (mC (.int 1)))))]) (.nm 4) b2_stepped)
  (sRet (mMove 3))))))
def e_stepped : FnE := ⟨fnOf 6 m_stepped, 2, false⟩
/-! tightened : 0 rows, 1 sizes, 2 words, 3 row, 4 size, 5 floor, 6 one, 7 other, 8 gap, 9 word, 10 place, 11 item -/
def b1_tightened : MS := (sItem 2 (mV 5) (mComp [6, 7] (itZip (mBin oIx (.nm 2) (.ex (mBin oSub (.nm 5) (.ex (mC (.int 1)))))) (mBin oIx (.nm 2) (.nm 5))) (.tup [(.nm 6), (.nm 7)]) mYes (mFn oMax [(.nm 6), (.nm 7)])))
def b2_tightened : MS := (sSeq (sSet 8 (mBin oSub (.ex (mBin oIx (.nm 1) (.ex (mBin oAdd (.nm 5) (.ex (mC (.int 1))))))) (.ex (mBin oIx (.nm 1) (.nm 5)))))
  (sItem 2 (mV 5) (mComp [6, 7] (itZip (mBin oIx (.nm 2) (.nm 5)) (mBin oIx (.nm 2) (.ex (mBin oAdd (.nm 5) (.ex (mC (.int 1))))))) (.tup [(.nm 6), (.nm 7)]) mYes (mFn oMax [(.nm 6), (.ex (mBin oSub (.nm 7) (.nm 8)))]))))
def b3_tightened : MS := (sIf (mT (.ex (mFn oAny [(.ex (mComp [10, 11] (itEnum (mV 9)) (.tup [(.nm 10), (.nm 11)]) mYes (mBin oGt (.nm 11) (.ex (mFn oMin [(.nm 10), (.nm 4)])))))])))
  (sRet (mC .none))
  sNx)
def m_tightened : MS := (sSeq (sIf (mNot (mT (.ex (mCall e_are_sizes [(false, (mV 1)), (false, (mBin oSub (.ex (mFn oLen [(.ex (mBin oIx (.nm 0) (.ex (mC (.int 0)))))])) (.ex (mC (.int 1)))))]))))
  (sRet (mC .none))
  sNx)
  (sSeq (sSet 2 (mComp [3, 4] (itZip (mV 0) (mV 1)) (.tup [(.nm 3), (.nm 4)]) mYes (mCall e_stepped [(false, (mV 3)), (false, (mV 4))])))
  (sSeq (sFor (itRng [(.ex (mC (.int 1))), (.ex (mFn oLen [(.nm 2)]))]) (.nm 5) b1_tightened)
  (sSeq (sFor (itRng [(.ex (mBin oSub (.ex (mFn oLen [(.nm 2)])) (.ex (mC (.int 2))))), (.ex (mUn oNeg (.ex (mC (.int 1))))), (.ex (mUn oNeg (.ex (mC (.int 1)))))]) (.nm 5) b2_tightened)
  (sSeq (sFor (itZip (mV 2) (mV 1)) (.tup [(.nm 9), (.nm 4)]) b3_tightened)
  (sRet (mFn oTuple [(.ex (mComp [9] (itSeq (mV 2)) (.nm 9) mYes (mFn oTuple [(.nm 9)])))])))))))
def e_tightened : FnE := ⟨fnOf 12 m_tightened, 2, false⟩
/-! _law_bag : 0 _law_script, 1 _law_cell -/
def m__law_bag : MS := (sRet (mLst [(false, (mC (.int 0))), (false, (mC (.int 1234567891))), (false, (mC (.int 0))), (false, (mComp [1] (itSeq (mSl (.nm 0) none (some (mC (.int 63))))) (.nm 1) mYes (mFn oAbs [(.nm 1)])))]))
def e__law_bag : FnE := ⟨fnOf 2 m__law_bag, 1, false⟩
/-! _law_take : 0 _law_bag_here, 1 _law_many, 2 _law_cell, 3 _law_stirred, 4 _law_value, 5 _law_begin, 6 _law_second -/
def m__law_take : MS := (sSeq (sIf (asT (mBin oEq (.ex (mBin oIx (.nm 0) (.ex (mC (.int 0))))) (.ex (mC (.int 0)))))
  (sSeq (sSet 2 (mBin oIx (.ex (mBin oAdd (.ex (mSl (.ex (mBin oIx (.nm 0) (.ex (mC (.int 3))))) (some (mBin oIx (.nm 0) (.ex (mC (.int 2))))) none)) (.ex (mLst [(false, (mC (.int 0)))])))) (.ex (mC (.int 0)))))
  (sSeq (sAugI 0 (fun i j => i + j) (mC (.int 2)) (mC (.int 1)))
  (sSeq (sIf (asT (mBin oGe (.nm 2) (.ex (mBin oPow (.ex (mC (.int 10))) (.ex (mC (.int 18)))))))
  (sItem 0 (mC (.int 0)) (mV 2))
  sNx)
  (sSeq (sSet 3 (mBin oAdd (.ex (mBin oAdd (.ex (mBin oMul (.ex (mBin oIx (.nm 0) (.ex (mC (.int 1))))) (.ex (mC (.int 48271))))) (.ex (mBin oMod (.ex (mFn oInt [(.nm 2)])) (.ex (mC (.int 2147483647))))))) (.ex (mBin oMul (.ex (mC (.int 7919))) (.ex (mBin oIx (.nm 0) (.ex (mC (.int 2)))))))))
  (sItem 0 (mC (.int 1)) (mBin oMod (.ex (mFn oInt [(.nm 3)])) (.ex (mC (.int 2147483647)))))))))
  sNx)
  (sSeq (sIf (asT (mBin oGt (.ex (mBin oIx (.nm 0) (.ex (mC (.int 0))))) (.ex (mC (.int 0)))))
  (sSeq (sSet 4 (mBin oMod (.ex (mFn oInt [(.ex (mBin oIx (.nm 0) (.ex (mC (.int 0)))))])) (.nm 1)))
  (sSeq (sItem 0 (mC (.int 0)) (mBin oFdiv (.ex (mFn oInt [(.ex (mBin oIx (.nm 0) (.ex (mC (.int 0)))))])) (.nm 1)))
  (sRet (mMove 4))))
  sNx)
  (sSeq (sSet 5 (mBin oMod (.ex (mFn oInt [(.ex (mBin oMul (.ex (mBin oAdd (.ex (mBin oIx (.nm 0) (.ex (mC (.int 1))))) (.ex (mC (.int 1))))) (.ex (mC (.int 39373)))))])) (.ex (mC (.int 1000000007)))))
  (sSeq (sSet 6 (mBin oMod (.ex (mFn oInt [(.ex (mBin oMul (.ex (mBin oMod (.ex (mFn oInt [(.ex (mBin oMul (.nm 5) (.nm 5)))])) (.ex (mC (.int 998244353))))) (.ex (mC (.int 30011)))))])) (.ex (mC (.int 998244353)))))
  (sRet (mBin oMod (.ex (mFn oInt [(.ex (mBin oFdiv (.nm 6) (.ex (mC (.int 7)))))])) (.nm 1)))))))
def e__law_take : FnE := ⟨fnOf 7 m__law_take, 2, true⟩
/-! _law_one : 0 _law_bag_here, 1 _law_things -/
def m__law_one : MS := (sRet (mBin oIx (.nm 1) (.ex (mCallR e__law_take 0 [(false, (mFn oLen [(.nm 1)]))]))))
def e__law_one : FnE := ⟨fnOf 2 m__law_one, 2, true⟩
/-! _law_alike : 0 _law_found, 1 _law_due -/
def m__law_alike : MS := (sRet (mAndV (mBin oEq (.nm 0) (.nm 1)) (mBin oEq (.ex (mFn oRepr [(.nm 0)])) (.ex (mFn oRepr [(.nm 1)])))))
def e__law_alike : FnE := ⟨fnOf 2 m__law_alike, 2, false⟩
/-! _law_mixed : 0 _law_bag_here, 1 _law_things, 2 _law_found, 3 _law_thing -/
def b1__law_mixed : MS := (sIns 2 (mCallR e__law_take 0 [(false, (mBin oAdd (.ex (mFn oLen [(.nm 2)])) (.ex (mC (.int 1)))))]) (mV 3))
def m__law_mixed : MS := (sSeq (sSet 2 (mLst []))
  (sSeq (sFor (itSeq (mV 1)) (.nm 3) b1__law_mixed)
  (sRet (mMove 2))))
def e__law_mixed : FnE := ⟨fnOf 4 m__law_mixed, 2, true⟩
/-! _law_house : 0 _law_bag_here, 1 _law_things, 2 _law_floors, 3 _law_rooms, 4 _law_many, 5 _law_found, 6 _law_left, 7 _law_floor -/
def b1__law_house : MS := (sIf (mAnd (asT (mBin oGt (.nm 6) (.ex (mC (.int 0))))) (asT (mBin oLt (.nm 7) (.nm 2))))
  (sSeq (sApp 5 (mFn oMin [(.nm 6), (.ex (mCallR e__law_one 0 [(false, (mLst [(false, (mC (.int 1))), (false, (mC (.int 2))), (false, (mC (.int 1))), (false, (mC (.int 3))), (false, (mC (.int 1))), (false, (mC (.int 2))), (false, (mBin oAdd (.ex (mC (.int 1))) (.ex (mCallR e__law_take 0 [(false, (mV 3))]))))]))]))]))
  (sAug 6 (fun i j => i - j) (mBin oIx (.nm 5) (.ex (mUn oNeg (.ex (mC (.int 1))))))))
  sNx)
def m__law_house : MS := (sSeq (sSet 4 (mCallR e__law_one 0 [(false, (mLst [(false, (mV 1)), (false, (mV 1)), (false, (mC (.int 3))), (false, (mC (.int 2))), (false, (mC (.int 1))), (false, (mC (.int 0))), (false, (mCallR e__law_take 0 [(false, (mBin oAdd (.nm 1) (.ex (mC (.int 1)))))]))]))]))
  (sSeq (sPar [5, 6] [(mLst []), (mV 3)])
  (sSeq (sFor (itRng [(.ex (mCallR e__law_one 0 [(false, (mLst [(false, (mV 2)), (false, (mC (.int 2))), (false, (mV 2)), (false, (mC (.int 1))), (false, (mBin oAdd (.ex (mC (.int 1))) (.ex (mCallR e__law_take 0 [(false, (mV 2))]))))]))]))]) (.nm 7) b1__law_house)
  (sRet (mTup [(false, (mFn oMin [(.nm 4), (.nm 1)])), (false, (mFn oTuple [(.nm 5)]))])))))
def e__law_house : FnE := ⟨fnOf 8 m__law_house, 4, true⟩

/-! ### the bag -/
structure Bag where
  c : Int
  s : Int
  a : Int
  cells : List Int
def Bag.d (b : Bag) : List FK.D := [.int b.c, .int b.s, .int b.a, .list (b.cells.map .int)]
theorem pow18 : oPow (.int 10) (.int 18) = some (.fz (.int 1000000000000000000)) := by
  show (if 0 ≤ (18 : Int) ∧ (18 : Int) ≤ 1000 ∧ intIn 10 = true then some (Val.fz (.int ((10 : Int) ^ (18 : Int).toNat))) else none) = _
  rw [if_pos (by decide)]
  rfl
theorem head_cells (cs : List Int) (lo : Option Int) : ∃ x xs, cutD (cs.map PyData.int) lo none ++ [.int 0] = PyData.int x :: xs := by
  have h : ∀ d ∈ cutD (cs.map PyData.int) lo none ++ [PyData.int 0], ∃ x, d = PyData.int x := by
    intro d hd
    rcases List.mem_append.mp hd with hd | hd
    · obtain ⟨x, _, e⟩ := List.mem_map.mp (List.mem_of_mem_drop (List.mem_of_mem_take hd))
      exact ⟨x, e.symm⟩
    · exact ⟨0, List.mem_singleton.mp hd⟩
  cases e : cutD (cs.map PyData.int) lo none ++ [PyData.int 0] with
  | nil => simp at e
  | cons d ds =>
    obtain ⟨x, rfl⟩ := h d (by rw [e]; exact List.mem_cons_self ..)
    exact ⟨x, ds, rfl⟩
theorem cut_len (ds : List FK.D) (lo : Option Int) : (cutD ds lo none).length ≤ ds.length := by
  unfold cutD
  rw [List.length_take, List.length_drop]
  omega
theorem take_ok (b : Bag) (n : Int) (hc : b.cells.length ≤ 1000) (h0 : 0 < n) (h1 : n < 1073741824) : wpF (e__law_take.f [.ow b.d, .fz (.int n)]) fun v o => ∃ k b', 0 ≤ k ∧ k < n ∧ v = .fz (.int k) ∧ o = some (Bag.d b') ∧ b'.cells = b.cells := by
  obtain ⟨x, xs, hx⟩ := head_cells b.cells (some b.a)
  have hl : (cutD (b.cells.map PyData.int) (some b.a) none).length + 1 ≤ 16777216 := by
    have := cut_len (b.cells.map PyData.int) (some b.a)
    rw [List.length_map] at this
    omega
  show wpF (fnOf 7 m__law_take _) _
  rw [wpF_fnOf]
  unfold m__law_take Bag.d
  have i1 : intIn 48271 = true := by decide
  have i2 : intIn 7919 = true := by decide
  have i3 : intIn 39373 = true := by decide
  have i4 : intIn 30011 = true := by decide
  simp_arith [hx, hl, pow18, i1, i2, i3, i4, h0, h1, Bool.or_true, Bool.true_or]
  have big : ∀ z : Int, (intIn (z % 1000000007) || intIn (z % 1000000007)) = true := fun z => by
    have h1 := Int.emod_nonneg z (show (1000000007 : Int) ≠ 0 by decide)
    have h2 := Int.emod_lt_of_pos z (show (0 : Int) < 1000000007 by decide)
    have h3 : intIn (z % 1000000007) = true := decide_eq_true ⟨by omega, by omega⟩
    rw [h3]
    rfl
  have fin : ∀ z c s a : Int, ∃ k, ∃ b' : Bag, 0 ≤ k ∧ k < n ∧ Val.fz (PyData.int (z % n)) = Val.fz (PyData.int k) ∧ some [PyData.int c, PyData.int s, PyData.int a, PyData.list (List.map PyData.int b.cells)] = some [PyData.int b'.c, PyData.int b'.s, PyData.int b'.a, PyData.list (List.map PyData.int b'.cells)] ∧ b'.cells = b.cells := fun z c s a =>
    ⟨z % n, ⟨c, s, a, b.cells⟩, Int.emod_nonneg z (by omega), Int.emod_lt_of_pos z h0, rfl, rfl, rfl⟩
  repeat' split
  all_goals first | exact fin _ _ _ _ | exact ⟨big _, fin _ _ _ _⟩
theorem one_ok (b : Bag) (xs : List FK.D) (hc : b.cells.length ≤ 1000) (h0 : xs ≠ []) (h1 : xs.length < 1073741824) : wpF (e__law_one.f [.ow b.d, .fz (.list xs)]) fun v o => ∃ x b', x ∈ xs ∧ v = .fz x ∧ o = some (Bag.d b') ∧ b'.cells = b.cells := by
  show wpF (fnOf 2 m__law_one _) _
  rw [wpF_fnOf]
  unfold m__law_one
  simp_arith
  refine ⟨rfl, (take_ok b xs.length hc ?_ (by omega)).mono ?_⟩
  · cases xs with
    | nil => exact absurd rfl h0
    | cons _ _ => rw [List.length_cons]; omega
  · rintro v o ⟨k, b', k0, k1, rfl, rfl, e⟩
    obtain ⟨j, rfl⟩ := Int.eq_ofNat_of_zero_le k0
    have hj : j < xs.length := by omega
    simp_arith [getAt_nat (List.getElem?_eq_getElem hj)]
    exact ⟨_, b', List.getElem_mem hj, rfl, rfl, e⟩
theorem cut_map {α : Type} (f : α → FK.D) (xs : List α) (lo hi : Option Int) : ∃ ys : List α, cutD (xs.map f) lo hi = ys.map f ∧ (∀ y ∈ ys, y ∈ xs) := by
  unfold cutD
  rw [← List.map_drop, ← List.map_take]
  exact ⟨_, rfl, fun y hy => List.mem_of_mem_drop (List.mem_of_mem_take hy)⟩
theorem cut_to (ds : List FK.D) (k : Nat) : (cutD ds none (some (k : Int))).length ≤ k := by
  unfold cutD
  rw [List.length_take, show HT.sIx ds.length ds.length (some (k : Int)) = min k ds.length from HT.sIx_nat ds.length ds.length k]
  omega
theorem bag_ok (ns : List Int) : wpF (e__law_bag.f [.fz (.list (ns.map .int))]) fun v _ => ∃ b : Bag, v = .ow b.d ∧ b.cells.length ≤ 63 := by
  obtain ⟨ys, hy, _⟩ := cut_map PyData.int ns none (some 63)
  have hl := cut_to (ns.map PyData.int) 63
  rw [show ((63 : Nat) : Int) = 63 from rfl, hy, List.length_map] at hl
  show wpF (fnOf 2 m__law_bag _) _
  rw [wpF_fnOf]
  unfold m__law_bag
  simp_arith [hy]
  refine wp_compP (enc := PyData.int) (g := fun a => [.int (if a < 0 then -a else a)]) (fun a _ => ?_) ?_
  · simp_arith
  · simp_arith
    refine ⟨⟨0, 1234567891, 0, ys.map fun a => if a < 0 then -a else a⟩, ?_, ?_⟩
    · unfold Bag.d
      rw [flat1, List.map_map]
      rfl
    · show (ys.map _).length ≤ 63
      rw [List.length_map]
      exact hl
/-! ### what is alike -/
theorem alike_ok {d : FK.D} {w k : Nat} (h : RP w k d) (hw : w ≤ 1048576) (hk : k ≤ 60) : wpF (e__law_alike.f [.fz d, .fz d]) fun v _ => v = .fz (.bool true) := by
  show wpF (fnOf 2 m__law_alike _) _
  rw [wpF_fnOf]
  unfold m__law_alike
  simp_arith [h.eq (by omega : k ≤ 64), oRepr, h.repr hw hk, eq_str]
end FW

/-! FwB: the least tight words. -/
namespace FW
open PySem FK
abbrev intsD (xs : List Int) : List FK.D := xs.map PyData.int
abbrev tupI (xs : List Int) : FK.D := .tuple (intsD xs)
abbrev rowsD (rs : List (List Int)) : FK.D := .tuple (rs.map tupI)
/-- the running most -/
def st1 (m s acc : Int) (p : Nat) : List Int → List Int
  | [] => []
  | x :: xs => max (max acc x) (s - m + (p : Int)) :: st1 m s (max (max acc x) (s - m + (p : Int))) (p + 1) xs
def back : List Int → List Int
  | [] => []
  | x :: xs => match back xs with
    | [] => [x]
    | y :: ys => max x (y - 1) :: y :: ys
def stepP (row : List Int) (s : Int) : List Int := back (st1 ((row.length : Int) - 1) s 0 0 row)
theorem snoc_of {α : Type} {xs : List α} {m : Nat} (h : xs.length = m + 1) : ∃ A z, xs = A ++ [z] ∧ A.length = m := by
  have hn : xs ≠ [] := by
    intro e
    rw [e] at h
    cases h
  exact ⟨xs.dropLast, xs.getLast hn, (List.dropLast_concat_getLast hn).symm, by rw [List.length_dropLast, h]; rfl⟩
theorem ints_app (a b : List Int) : intsD (a ++ b) = intsD a ++ intsD b := List.map_append
theorem ints_one (a : Int) : intsD [a] = [PyData.int a] := rfl
theorem st1_len {m s : Int} : ∀ (xs : List Int) (acc : Int) (p : Nat), (st1 m s acc p xs).length = xs.length
  | [], _, _ => rfl
  | x :: xs, acc, p => by
    show (st1 m s _ (p + 1) xs).length + 1 = xs.length + 1
    rw [st1_len xs]
theorem back_cons (x : Int) (xs : List Int) : ∃ y ys, back (x :: xs) = y :: ys := by
  show ∃ y ys, (match back xs with
    | [] => [x]
    | y :: ys => max x (y - 1) :: y :: ys) = y :: ys
  cases back xs with
  | nil => exact ⟨_, _, rfl⟩
  | cons y ys => exact ⟨_, _, rfl⟩
theorem back_two {x y : Int} {xs ys : List Int} (h : back xs = y :: ys) : back (x :: xs) = max x (y - 1) :: y :: ys := by
  show (match back xs with
    | [] => [x]
    | y :: ys => max x (y - 1) :: y :: ys) = _
  rw [h]
theorem back_len : ∀ xs : List Int, (back xs).length = xs.length
  | [] => rfl
  | [x] => rfl
  | x :: y :: xs => by
    obtain ⟨z, zs, h⟩ := back_cons y xs
    have := back_len (y :: xs)
    rw [back_two h]
    rw [h] at this
    simp only [List.length_cons] at this ⊢
    omega
theorem stepped_ok (row : List Int) (s : Int) (h0 : row ≠ []) (h1 : row.length ≤ 1000) : wpF (e_stepped.f [.fz (tupI row), .fz (.int s)]) fun v _ => v = .ow (intsD (stepP row s)) := by
  show wpF (fnOf 6 m_stepped _) _
  rw [wpF_fnOf]
  unfold m_stepped
  simp_arith
  refine wp_enum (enc := PyData.int) (fun p rest ρ => ∃ pre acc x4 x5, ρ = [some (.fz (tupI row)), some (.fz (.int s)), some (.fz (.int ((row.length : Int) - 1))), some (.ow (intsD pre ++ [.int acc])), x4, x5] ∧
    pre ++ acc :: st1 ((row.length : Int) - 1) s acc p rest = 0 :: st1 ((row.length : Int) - 1) s 0 0 row ∧ pre.length + 1 + rest.length = row.length + 1) (fun p x rest ρ h => ?_) (fun p ρ h => ?_) ⟨[], 0, none, none, ?_, ?_, ?_⟩
  · obtain ⟨pre, acc, x4, x5, rfl, e1, e3⟩ := h
    unfold b1_stepped
    simp_arith [getAt_last]
    refine ⟨?_, pre ++ [acc], _, _, _, by rw [ints_app, ints_one], ?_, ?_⟩
    · simp only [List.length_append, List.length_map, List.length_cons, List.length_nil] at e3 ⊢; omega
    · rw [List.append_assoc]; exact e1
    · simp only [List.length_append, List.length_cons, List.length_nil] at e3 ⊢; omega
  · obtain ⟨pre, acc, x4, x5, rfl, e1, e3⟩ := h
    obtain ⟨m, hm⟩ : ∃ m, row.length = m + 1 := ⟨row.length - 1, by
      have := List.length_pos_iff.mpr h0
      omega⟩
    have ed : (intsD pre ++ [PyData.int acc]).drop 1 = intsD (st1 ((row.length : Int) - 1) s 0 0 row) := by
      have : intsD pre ++ [PyData.int acc] = intsD (pre ++ [acc]) := by rw [ints_app, ints_one]
      rw [this, show pre ++ [acc] = 0 :: st1 ((row.length : Int) - 1) s 0 0 row from e1]
      rfl
    have hl := st1_len (m := (row.length : Int) - 1) (s := s) row 0 0
    have em : ((row.length : Int) - 1 - 1) = ((m : Int) - 1) := by omega
    generalize hL : st1 ((row.length : Int) - 1) s 0 0 row = L at ed hl
    simp_arith [cut_tail, ed, em, rngOf3 (show m ≤ 1000000 by omega)]
    refine wp_down (fun p ρ => ∃ A B y ys x4, L = A ++ B ∧ A.length = p ∧ back B = y :: ys ∧ ρ = [some (.fz (tupI row)), some (.fz (.int s)), some (.fz (.int ((row.length : Int) - 1))), some (.ow (intsD A ++ PyData.int y :: intsD ys)), x4, x5]) (fun p ρ hp h => ?_) (fun ρ h => ?_) ?_
    · obtain ⟨A, B, y, ys, x4, e1, e2, e3, rfl⟩ := h
      obtain ⟨A', x, rfl, hA⟩ := snoc_of e2
      have ei : intsD (A' ++ [x]) ++ PyData.int y :: intsD ys = intsD A' ++ PyData.int x :: PyData.int y :: intsD ys := by
        rw [ints_app, ints_one, List.append_assoc]; rfl
      have hA' : ((intsD A').length : Int) = (p : Int) := by rw [List.length_map, hA]
      unfold b2_stepped
      simp_arith [ei, getAt_mid hA'.symm, getAt_mid1 (show (p : Int) + 1 = ((intsD A').length : Int) + 1 by omega), putAt_mid hA'.symm]
      exact ⟨A', x :: B, _, y :: ys, _, by rw [e1, List.append_assoc]; rfl, hA, back_two e3, rfl⟩
    · obtain ⟨A, B, y, ys, x4, e1, e2, e3, rfl⟩ := h
      simp_arith
      have : A = [] := List.eq_nil_of_length_eq_zero e2
      subst this
      show Val.ow (intsD (y :: ys)) = Val.ow (intsD (back (st1 ((row.length : Int) - 1) s 0 0 row)))
      rw [hL, e1, ← e3]
      rfl
    · obtain ⟨A, z, rfl, hA⟩ := snoc_of (hl.trans hm)
      exact ⟨A, [z], _, [], _, rfl, hA, rfl, by rw [ints_app, ints_one]; rfl⟩
  · rfl
  · rfl
  · show 0 + 1 + row.length = row.length + 1
    omega
end FW
namespace FW
open PySem FK
/-! ### sizes -/
def upB (xs : List Int) : Bool := (xs.zip xs.tail).all fun q => decide (q.1 ≤ q.2)
def areP (sizes : List Int) (many : Int) : Bool := match sizes with
  | [] => true
  | x :: xs => !(decide (x < 0) || decide (many < (x :: xs).getLast (List.cons_ne_nil _ _))) && upB (x :: xs)
theorem bools_map {α : Type} (f : α → Bool) : ∀ xs : List α, boolsOf (xs.map fun a => PyData.bool (f a)) = some (xs.map f)
  | [] => rfl
  | x :: xs => by
    show (boolsOf (xs.map fun a => PyData.bool (f a))).map (f x :: ·) = _
    rw [bools_map f xs]
    rfl
theorem all_map {α : Type} (f : α → Bool) (xs : List α) : oAll [.list (xs.map fun a => PyData.bool (f a))] = some (.fz (.bool (xs.all f))) := by
  show (boolsOf _).map _ = _
  rw [bools_map]
  show some (Val.fz (.bool ((xs.map f).all id))) = _
  rw [List.all_map]
  rfl
theorem any_map {α : Type} (f : α → Bool) (xs : List α) : oAny [.list (xs.map fun a => PyData.bool (f a))] = some (.fz (.bool (xs.any f))) := by
  show (boolsOf _).map _ = _
  rw [bools_map]
  show some (Val.fz (.bool ((xs.map f).any id))) = _
  rw [List.any_map]
  rfl
theorem are_sizes_ok (sizes : List Int) (many : Int) (h0 : sizes ≠ []) (h1 : sizes.length ≤ 1000) : wpF (e_are_sizes.f [.fz (tupI sizes), .fz (.int many)]) fun v _ => v = .fz (.bool (areP sizes many)) := by
  obtain ⟨x, xs, rfl⟩ := List.exists_cons_of_ne_nil h0
  have hg : getAt (-1) (intsD (x :: xs)) = some (.int ((x :: xs).getLast (List.cons_ne_nil _ _))) := by
    rw [getAt_last' (by simp), List.getLast_map]
  have hg' : getAt (-1) (PyData.int x :: xs.map PyData.int) = some (.int ((x :: xs).getLast (List.cons_ne_nil _ _))) := hg
  have hd : cutD (PyData.int x :: xs.map PyData.int) (some 1) none = xs.map PyData.int := by rw [cut_tail]; rfl
  show wpF (fnOf 4 m_are_sizes _) _
  rw [wpF_fnOf]
  unfold m_are_sizes
  simp_arith [hg', hd]
  by_cases c1 : x < 0
  · rw [if_pos c1]
    simp [areP, c1]
  · rw [if_neg c1]
    by_cases c2 : many < (x :: xs).getLast (List.cons_ne_nil _ _)
    · rw [if_pos c2]
      simp only [areP, c1, c2, decide_true, Bool.or_true, Bool.not_true, Bool.false_and]
    · rw [if_neg c2]
      refine wp_compZ (fun a b => [.bool (decide (a ≤ b))]) (fun a b _ => ?_) ?_
      · simp_arith
      · simp_arith [flat1, all_map]
        simp [areP, c1, c2, upB]
end FW
namespace FW
open PySem FK
/-! ### tightened -/
abbrev lisI (xs : List Int) : FK.D := .list (intsD xs)
def mx (a b : List Int) : List Int := (a.zip b).map fun q => max q.1 q.2
def mxg (g : Int) (a b : List Int) : List Int := (a.zip b).map fun q => max q.1 (q.2 - g)
def upGo (prev : List Int) : List (List Int) → List (List Int)
  | [] => []
  | w :: ws => mx prev w :: upGo (mx prev w) ws
def upP : List (List Int) → List (List Int)
  | [] => []
  | w :: ws => w :: upGo w ws
def dnP : List Int → List (List Int) → List (List Int)
  | s :: s' :: ss, w :: w' :: ws => match dnP (s' :: ss) (w' :: ws) with
    | v :: vs => mxg (s' - s) w v :: v :: vs
    | [] => [w]
  | _, ws => ws
def okW (w : List Int) (s : Int) : Bool := !(w.zipIdx.any fun q => decide (min (q.2 : Int) s < q.1))
def okP (ws : List (List Int)) (ss : List Int) : Bool := (ws.zip ss).all fun q => okW q.1 q.2
def stepsP (rows : List (List Int)) (ss : List Int) : List (List Int) := (rows.zip ss).map fun q => stepP q.1 q.2
def wordsP (rows : List (List Int)) (ss : List Int) : List (List Int) := dnP ss (upP (stepsP rows ss))
def tightP (rows : List (List Int)) (ss : List Int) : Option (List (List Int)) := match rows with
  | [] => none
  | r :: _ => if areP ss ((r.length : Int) - 1) && okP (wordsP rows ss) ss then some (wordsP rows ss) else none
theorem upGo_len : ∀ (ws : List (List Int)) (p : List Int), (upGo p ws).length = ws.length
  | [], _ => rfl
  | w :: ws, p => by
    show (upGo _ ws).length + 1 = ws.length + 1
    rw [upGo_len ws]
theorem upP_len : ∀ ws : List (List Int), (upP ws).length = ws.length
  | [] => rfl
  | w :: ws => by
    show (upGo w ws).length + 1 = ws.length + 1
    rw [upGo_len]
theorem dnP_one (s : Int) (w : List Int) : dnP [s] [w] = [w] := by unfold dnP; rfl
theorem dnP_cons : ∀ (s s' : Int) (ss : List Int) (w w' : List Int) (ws : List (List Int)) {v : List Int} {vs : List (List Int)}, dnP (s' :: ss) (w' :: ws) = v :: vs → dnP (s :: s' :: ss) (w :: w' :: ws) = mxg (s' - s) w v :: v :: vs := fun s s' ss w w' ws v vs h => by
  rw [dnP, h]
theorem dnP_ex : ∀ (ss : List Int) (ws : List (List Int)), ws ≠ [] → ∃ v vs, dnP ss ws = v :: vs
  | [], w :: ws, _ => ⟨w, ws, by unfold dnP; rfl⟩
  | [s], w :: ws, _ => ⟨w, ws, by unfold dnP; rfl⟩
  | s :: s' :: ss, [w], _ => ⟨w, [], by unfold dnP; rfl⟩
  | s :: s' :: ss, w :: w' :: ws, _ => by
    obtain ⟨v, vs, h⟩ := dnP_ex (s' :: ss) (w' :: ws) (by simp)
    exact ⟨_, _, dnP_cons _ _ _ _ _ _ h⟩
  | _, [], h => absurd rfl h
def lisD (ws : List (List Int)) : List FK.D := ws.map lisI
theorem lis_app (a b : List (List Int)) : lisD (a ++ b) = lisD a ++ lisD b := List.map_append
theorem lis_cons (a : List Int) (b : List (List Int)) : lisD (a :: b) = lisI a :: lisD b := rfl
theorem lis_len (a : List (List Int)) : (lisD a).length = a.length := List.length_map _
def noneOr (o : Option (List (List Int))) : Val := match o with
  | none => .fz .none
  | some W => .fz (rowsD W)
section
variable {R S : Option Val} {ss : List Int}
theorem tight_up {w0 : List Int} {ws0 : List (List Int)} {Q : Fl → Rho → Prop} (lenW : (w0 :: ws0).length = ss.length)
    (fin : ∀ x5, Q .nx [R, S, some (.ow (lisD (upP (w0 :: ws0)))), none, none, x5, none, none, none, none, none, none]) :
    wp (forL (.nm 5) b1_tightened ((List.range' 1 (ss.length - 1)).map fun (k : Nat) => PyData.int (k : Int))) [R, S, some (.ow (lisD (w0 :: ws0))), none, none, none, none, none, none, none, none, none] Q := by
  refine wp_up2 (fun j ρ => ∃ A p rest x5, A.length + 1 = j ∧ j + rest.length = ss.length ∧ A ++ p :: upGo p rest = upP (w0 :: ws0) ∧
    ρ = [R, S, some (.ow (lisD A ++ lisI p :: lisD rest)), none, none, x5, none, none, none, none, none, none]) (fun j ρ hj1 hj2 h => ?_) (fun ρ h => ?_) ⟨[], w0, ws0, none, rfl, by rw [← lenW, List.length_cons]; omega, rfl, rfl⟩
  · obtain ⟨A, p, rest, x5, e1, e2, e3, rfl⟩ := h
    obtain ⟨w, rest, rfl⟩ : ∃ w ws, rest = w :: ws := List.exists_cons_of_ne_nil (by
      intro e
      rw [e] at e2
      simp only [List.length_nil] at e2
      omega)
    rw [lis_cons]
    have eA : (lisD A).length = A.length := lis_len A
    unfold b1_tightened
    simp_arith [getAt_mid (show (j : Int) - 1 = ((lisD A).length : Int) by omega), getAt_mid1 (show (j : Int) = ((lisD A).length : Int) + 1 by omega)]
    refine wp_compZ (ea := PyData.int) (eb := PyData.int) (fun a b => [.int (max a b)]) (fun a b _ => ?_) ?_
    · simp_arith
    · simp_arith [flat1i, putAt_mid1 (show (j : Int) = ((lisD A).length : Int) + 1 by omega)]
      refine ⟨A ++ [p], mx p w, rest, some (.fz (.int (j : Int))), by simp only [List.length_append, List.length_cons, List.length_nil]; omega, by simp only [List.length_cons] at e2; omega, by rw [List.append_assoc]; exact e3, ?_⟩
      rw [lis_app, List.append_assoc]
      rfl
  · obtain ⟨A, p, rest, x5, e1, e2, e3, rfl⟩ := h
    have er : rest = [] := List.eq_nil_of_length_eq_zero (by
      rw [List.length_cons] at lenW
      omega)
    subst er
    have := fin x5
    rw [← e3, lis_app] at this
    exact this
theorem tight_down {U : List (List Int)} {x5 : Option Val} {n : Nat} {Q : Fl → Rho → Prop} (lenU : U.length = n + 1) (lenS : ss.length = n + 1)
    (fin : ∀ x5 x8, Q .nx [R, some (.fz (tupI ss)), some (.ow (lisD (dnP ss U))), none, none, x5, none, none, x8, none, none, none]) :
    wp (forL (.nm 5) b2_tightened ((List.range n).reverse.map fun (k : Nat) => PyData.int (k : Int))) [R, some (.fz (tupI ss)), some (.ow (lisD U)), none, none, x5, none, none, none, none, none, none] Q := by
  refine wp_down (fun j ρ => ∃ A' B SA SB v vs x5 x8, A'.length = j ∧ SA.length = j ∧ A' ++ B = U ∧ SA ++ SB = ss ∧ B ≠ [] ∧ SB ≠ [] ∧ dnP SB B = v :: vs ∧
    ρ = [R, some (.fz (tupI ss)), some (.ow (lisD A' ++ lisI v :: lisD vs)), none, none, x5, none, none, x8, none, none, none]) (fun j ρ hj h => ?_) (fun ρ h => ?_) ?_
  · obtain ⟨A1, B, SA, SB, v, vs, x5, x8, l1, l2, e4, e5, hB, hSB, e6, rfl⟩ := h
    obtain ⟨A', w, rfl, l3⟩ := snoc_of l1
    obtain ⟨SA', s, rfl, l4⟩ := snoc_of l2
    obtain ⟨w', B', rfl⟩ := List.exists_cons_of_ne_nil hB
    obtain ⟨s', SB', rfl⟩ := List.exists_cons_of_ne_nil hSB
    have lA : (lisD A').length = j := by rw [lis_len]; exact l3
    have lS : (intsD SA').length = j := by rw [List.length_map]; exact l4
    have eS : intsD ss = intsD SA' ++ PyData.int s :: PyData.int s' :: intsD SB' := by
      rw [← e5, List.append_assoc, ints_app]; rfl
    have eW : lisD (A' ++ [w]) ++ lisI v :: lisD vs = lisD A' ++ lisI w :: lisI v :: lisD vs := by
      rw [lis_app, List.append_assoc]; rfl
    rw [eW]
    unfold b2_tightened
    simp_arith [eS, getAt_mid (show (j : Int) = ((intsD SA').length : Int) by omega), getAt_mid1 (show (j : Int) + 1 = ((intsD SA').length : Int) + 1 by omega), getAt_mid (show (j : Int) = ((lisD A').length : Int) by omega), getAt_mid1 (show (j : Int) + 1 = ((lisD A').length : Int) + 1 by omega)]
    refine wp_compZ (ea := PyData.int) (eb := PyData.int) (fun a b => [.int (max a (b - (s' - s)))]) (fun a b _ => ?_) ?_
    · simp_arith
    · simp_arith [flat1i, putAt_mid (show (j : Int) = ((lisD A').length : Int) by omega)]
      exact ⟨A', w :: w' :: B', SA', s :: s' :: SB', mxg (s' - s) w v, v :: vs, some (.fz (.int (j : Int))), some (.fz (.int (s' - s))), l3, l4, by rw [← e4, List.append_assoc]; rfl, by rw [← e5, List.append_assoc]; rfl, by simp, by simp, dnP_cons _ _ _ _ _ _ e6, rfl⟩
  · obtain ⟨A1, B, SA, SB, v, vs, x5, x8, l1, l2, e4, e5, hB, hSB, e6, rfl⟩ := h
    have : A1 = [] := List.eq_nil_of_length_eq_zero l1
    subst this
    have : SA = [] := List.eq_nil_of_length_eq_zero l2
    subst this
    have := fin x5 x8
    rw [← e4, List.nil_append, ← e5, List.nil_append, e6] at this
    rw [← e5, List.nil_append]
    exact this
  · obtain ⟨A, w, rfl, lA⟩ := snoc_of lenU
    obtain ⟨SA, s, rfl, lS⟩ := snoc_of lenS
    exact ⟨A, [w], SA, [s], w, [], x5, none, lA, lS, rfl, rfl, by simp, by simp, dnP_one s w, by rw [lis_app]; rfl⟩
theorem tight_check {V : List (List Int)} {x5 x8 : Option Val} {Q : Fl → Rho → Prop}
    (yes : okP V ss = true → ∀ x4 x9, isOwn (some x9) = false → Q .nx [R, S, some (.fz (.list (lisD V))), none, x4, x5, none, none, x8, x9, none, none])
    (no : okP V ss = false → ∀ ρ, Q (.rt (.fz .none)) ρ) :
    wp (forL (.tup [(.nm 9), (.nm 4)]) b3_tightened (zipL (lisD V) (intsD ss))) [R, S, some (.fz (.list (lisD V))), none, none, x5, none, none, x8, none, none, none] Q := by
  refine wp_zip (ea := lisI) (eb := PyData.int) (fun xs ys ρ => okP V ss = okP xs ys ∧ ∃ x4 x9, isOwn (some x9) = false ∧ ρ = [R, S, some (.fz (.list (lisD V))), none, x4, x5, none, none, x8, x9, none, none]) (fun x xs y ys ρ h => ?_) (fun xs ys ρ hn h => ?_) ⟨rfl, _, _, rfl, rfl⟩
  · obtain ⟨hk, x4, x9, h9, rfl⟩ := h
    unfold b3_tightened
    simp_arith
    refine wp_compE (ea := PyData.int) (fun a k => [.bool (decide (min (k : Int) y < a))]) (fun a k _ => ?_) ?_
    · simp_arith
    · simp_arith [flat1, any_map]
      cases hw : okW x y with
      | false =>
        have hz : (x.zipIdx.any fun a => decide (min (a.2 : Int) y < a.1)) = true := by
          have : (!(x.zipIdx.any fun a => decide (min (a.2 : Int) y < a.1))) = false := hw
          simpa using this
        rw [hz, if_pos rfl]
        exact no (by
          rw [hk]
          show (okW x y && okP xs ys) = false
          rw [hw]; rfl) _
      | true =>
        have hz : (x.zipIdx.any fun a => decide (min (a.2 : Int) y < a.1)) = false := by
          have : (!(x.zipIdx.any fun a => decide (min (a.2 : Int) y < a.1))) = true := hw
          simpa using this
        rw [hz]
        simp_arith
        refine ⟨?_, _, _, rfl, rfl⟩
        rw [hk]
        show (okW x y && okP xs ys) = okP xs ys
        rw [hw]; rfl
  · obtain ⟨hk, x4, x9, h9, rfl⟩ := h
    refine yes ?_ _ _ h9
    rw [hk]
    rcases hn with e | e <;> subst e
    · rfl
    · cases xs <;> rfl
end
theorem tightened_ok (rows : List (List Int)) (ss : List Int) (h0 : rows ≠ []) (hl : rows.length = ss.length) (h1 : rows.length ≤ 1000) (h2 : ∀ r ∈ rows, r ≠ [] ∧ r.length ≤ 1000) :
    wpF (e_tightened.f [.fz (rowsD rows), .fz (tupI ss)]) fun v _ => v = noneOr (tightP rows ss) := by
  obtain ⟨r, rs, rfl⟩ := List.exists_cons_of_ne_nil h0
  have hss : ss ≠ [] := by
    intro e
    rw [e] at hl
    cases hl
  obtain ⟨n, hn⟩ : ∃ n, ss.length = n + 1 := ⟨ss.length - 1, by
    have := List.length_pos_iff.mpr hss
    omega⟩
  have hn3 : n ≤ 1000000 := by omega
  have hn4 : ss.length ≤ 1000000 := by omega
  show wpF (fnOf 12 m_tightened _) _
  rw [wpF_fnOf]
  unfold m_tightened
  simp_arith
  refine ⟨rfl, (are_sizes_ok ss ((r.length : Int) - 1) hss (by omega)).mono ?_⟩
  rintro _ _ rfl
  simp_arith
  cases ha : areP ss ((r.length : Int) - 1) with
  | false =>
    simp_arith
    simp only [tightP, ha]
    rfl
  | true =>
    simp_arith
    refine wp_compZ (ea := tupI) (eb := PyData.int) (xs := r :: rs) (ys := ss) (fun row s => [lisI (stepP row s)]) (fun row s hm => ?_) ?_
    · have hr := h2 row (List.of_mem_zip hm).1
      simp_arith
      refine ⟨rfl, (stepped_ok row s hr.1 hr.2).mono ?_⟩
      rintro _ _ rfl
      simp_arith
    · rw [flat1]
      have hW : ((r :: rs).zip ss).map (fun a => lisI (stepP a.1 a.2)) = lisD (stepsP (r :: rs) ss) := by
        show _ = List.map lisI (List.map _ _)
        rw [List.map_map]; rfl
      rw [hW]
      have lenW : (stepsP (r :: rs) ss).length = ss.length := by
        show (List.map _ _).length = _
        rw [List.length_map, List.length_zip, hl]; omega
      generalize hW1 : stepsP (r :: rs) ss = W1 at lenW
      obtain ⟨w0, ws0, rfl⟩ : ∃ w ws, W1 = w :: ws := List.exists_cons_of_ne_nil (by
        intro e
        rw [e] at lenW
        exact hss (List.eq_nil_of_length_eq_zero lenW.symm))
      have lenW' : (lisD (w0 :: ws0)).length = ss.length := by rw [lis_len]; exact lenW
      simp_arith [lenW', rng_from1 hn4]
      refine tight_up lenW fun x5 => ?_
      have lenU : (upP (w0 :: ws0)).length = n + 1 := by rw [upP_len, lenW, hn]
      have lD : (lisD (upP (w0 :: ws0))).length = n + 1 := by rw [lis_len, lenU]
      have em : (((n + 1 : Nat) : Int) - 2) = (n : Int) - 1 := by omega
      simp_arith [lD, em, rngOf3 hn3]
      refine tight_down lenU hn fun x5 x8 => ?_
      have e7 : wordsP (r :: rs) ss = dnP ss (upP (w0 :: ws0)) := by
        show dnP ss (upP (stepsP (r :: rs) ss)) = _
        rw [hW1]
      rw [← e7]
      have et : tightP (r :: rs) ss = if okP (wordsP (r :: rs) ss) ss = true then some (wordsP (r :: rs) ss) else none := by
        show (if areP ss ((r.length : Int) - 1) && okP (wordsP (r :: rs) ss) ss then some (wordsP (r :: rs) ss) else none) = _
        rw [ha, Bool.true_and]
      simp_arith
      refine tight_check (fun hk x4 x9 h9 => ?_) fun hk ρ => ?_
      · simp_arith [h9, lisD]
        refine wp_compP (enc := lisI) (g := fun w => [tupI w]) (fun w _ => ?_) ?_
        · simp_arith
        · simp_arith [flat1]
          rw [et, hk]
          rfl
      · show Val.fz .none = noneOr (tightP (r :: rs) ss)
        rw [et, hk]
        rfl
end FW

/-! FwC: the least tight words, in plain lists. -/
namespace FW
open PySem FK
def le2 : List Int → List Int → Prop
  | [], [] => True
  | x :: xs, y :: ys => x ≤ y ∧ le2 xs ys
  | _, _ => False
def leg (g : Int) : List Int → List Int → Prop
  | [], [] => True
  | x :: xs, y :: ys => x - g ≤ y ∧ leg g xs ys
  | _, _ => False
def mono : List Int → Prop
  | x :: y :: r => x ≤ y ∧ mono (y :: r)
  | _ => True
def lip : List Int → Prop
  | x :: y :: r => y ≤ x + 1 ∧ lip (y :: r)
  | _ => True
def low (c : Int) : List Int → Prop
  | [] => True
  | x :: xs => c ≤ x ∧ low (c + 1) xs
def nn (a : Int) : List Int → Prop
  | [] => True
  | x :: xs => a ≤ x ∧ nn a xs
theorem le2_refl : ∀ xs, le2 xs xs
  | [] => trivial
  | x :: xs => ⟨Int.le_refl x, le2_refl xs⟩
theorem le2_trans : ∀ {xs ys zs}, le2 xs ys → le2 ys zs → le2 xs zs
  | [], [], [], _, _ => trivial
  | x :: xs, y :: ys, z :: zs, h, g => ⟨Int.le_trans h.1 g.1, le2_trans h.2 g.2⟩
  | [], [], _ :: _, _, g => g.elim
  | [], _ :: _, _, h, _ => h.elim
  | _ :: _, [], _, h, _ => h.elim
  | _ :: _, _ :: _, [], _, g => g.elim
theorem le2_len : ∀ {xs ys}, le2 xs ys → xs.length = ys.length
  | [], [], _ => rfl
  | x :: xs, y :: ys, h => by rw [List.length_cons, List.length_cons, le2_len h.2]
  | [], _ :: _, h => h.elim
  | _ :: _, [], h => h.elim
theorem le2_anti : ∀ {xs ys}, le2 xs ys → le2 ys xs → xs = ys
  | [], [], _, _ => rfl
  | x :: xs, y :: ys, h, g => by rw [le2_anti h.2 g.2, Int.le_antisymm h.1 g.1]
  | [], _ :: _, h, _ => h.elim
  | _ :: _, [], h, _ => h.elim
theorem low_le2 : ∀ {xs ys} {c : Int}, low c xs → le2 xs ys → low c ys
  | [], [], _, _, _ => trivial
  | x :: xs, y :: ys, c, h, g => ⟨Int.le_trans h.1 g.1, low_le2 h.2 g.2⟩
  | [], _ :: _, _, _, h => h.elim
  | _ :: _, [], _, _, h => h.elim
theorem nn_le2 : ∀ {xs ys} {c : Int}, nn c xs → le2 xs ys → nn c ys
  | [], [], _, _, _ => trivial
  | x :: xs, y :: ys, c, h, g => ⟨Int.le_trans h.1 g.1, nn_le2 h.2 g.2⟩
  | [], _ :: _, _, _, h => h.elim
  | _ :: _, [], _, _, h => h.elim
theorem nn_weak : ∀ {xs} {a b : Int}, b ≤ a → nn a xs → nn b xs
  | [], _, _, _, _ => trivial
  | x :: xs, a, b, h, g => ⟨Int.le_trans h g.1, nn_weak h g.2⟩
theorem mono_nn : ∀ {x : Int} {xs}, mono (x :: xs) → nn x xs
  | _, [], _ => trivial
  | x, y :: ys, h => ⟨h.1, nn_weak h.1 (mono_nn h.2)⟩
/-! ### the running most -/
section
variable {m s : Int}
theorem st1_nn : ∀ (xs : List Int) (acc : Int) (p : Nat), nn acc (st1 m s acc p xs)
  | [], _, _ => trivial
  | x :: xs, acc, p => ⟨by omega, nn_weak (by omega) (st1_nn xs _ (p + 1))⟩
theorem st1_mono : ∀ (xs : List Int) (acc : Int) (p : Nat), mono (st1 m s acc p xs)
  | [], _, _ => trivial
  | [x], _, _ => trivial
  | x :: y :: xs, acc, p => ⟨by omega, st1_mono (y :: xs) _ (p + 1)⟩
theorem st1_ge : ∀ (xs : List Int) (acc : Int) (p : Nat), le2 xs (st1 m s acc p xs)
  | [], _, _ => trivial
  | x :: xs, acc, p => ⟨by omega, st1_ge xs _ (p + 1)⟩
theorem st1_low : ∀ (xs : List Int) (acc : Int) (p : Nat) (c : Int), c = s - m + (p : Int) → low c (st1 m s acc p xs)
  | [], _, _, _, _ => trivial
  | x :: xs, acc, p, c, e => ⟨by omega, st1_low xs _ (p + 1) (c + 1) (by push_cast; omega)⟩
theorem st1_least : ∀ (xs us : List Int) (acc : Int) (p : Nat) (c : Int), c = s - m + (p : Int) → mono us → nn acc us → le2 xs us → low c us → le2 (st1 m s acc p xs) us
  | [], [], _, _, _, _, _, _, _, _ => trivial
  | x :: xs, u :: us, acc, p, c, e, h1, h2, h3, h4 => by
    have ha : max (max acc x) (s - m + (p : Int)) ≤ u := by
      have := h2.1; have := h3.1; have := h4.1
      omega
    refine ⟨ha, st1_least xs us _ (p + 1) (c + 1) (by push_cast; omega) ?_ (nn_weak ha (mono_nn h1)) h3.2 h4.2⟩
    cases us with
    | nil => trivial
    | cons v us => exact h1.2
  | [], _ :: _, _, _, _, _, _, _, h, _ => h.elim
  | _ :: _, [], _, _, _, _, _, _, h, _ => h.elim
end
/-! ### backwards -/
theorem back_ge : ∀ xs, le2 xs (back xs)
  | [] => trivial
  | [x] => ⟨Int.le_refl x, trivial⟩
  | x :: y :: xs => by
    obtain ⟨z, zs, h⟩ := back_cons y xs
    have ih := back_ge (y :: xs)
    rw [back_two h]
    rw [h] at ih
    exact ⟨by omega, ih⟩
theorem back_lip : ∀ xs, lip (back xs)
  | [] => trivial
  | [x] => trivial
  | x :: y :: xs => by
    obtain ⟨z, zs, h⟩ := back_cons y xs
    have ih := back_lip (y :: xs)
    rw [back_two h]
    rw [h] at ih
    exact ⟨by omega, ih⟩
theorem back_mono : ∀ xs, mono xs → mono (back xs)
  | [], _ => trivial
  | [x], _ => trivial
  | x :: y :: xs, h => by
    obtain ⟨z, zs, e⟩ := back_cons y xs
    have ih := back_mono (y :: xs) h.2
    have ge := back_ge (y :: xs)
    rw [back_two e]
    rw [e] at ih ge
    have h1 := h.1
    have h2 := ge.1
    exact ⟨by omega, ih⟩
theorem back_least : ∀ xs us, lip us → le2 xs us → le2 (back xs) us
  | [], [], _, _ => trivial
  | [x], [u], _, h => h
  | x :: y :: xs, u :: v :: us, h, g => by
    obtain ⟨z, zs, e⟩ := back_cons y xs
    have ih := back_least (y :: xs) (v :: us) h.2 g.2
    rw [back_two e]
    rw [e] at ih
    have h1 := h.1
    have h2 := g.1
    have h3 := ih.1
    exact ⟨by omega, ih⟩
  | [], _ :: _, _, h => h.elim
  | [x], [], _, h => h.elim
  | [x], _ :: _ :: _, _, h => h.2.elim
  | x :: y :: xs, [], _, h => h.elim
  | x :: y :: xs, [_], _, h => h.2.elim
/-! ### a good word -/
structure Gd (c : Int) (w : List Int) : Prop where
  mo : mono w
  li : lip w
  no : nn 0 w
  lo : low c w
theorem stepP_len (row : List Int) (s : Int) : (stepP row s).length = row.length := by
  unfold stepP
  rw [back_len, st1_len]
theorem stepP_ge (row : List Int) (s : Int) : le2 row (stepP row s) := le2_trans (st1_ge _ _ _) (back_ge _)
theorem stepP_gd (row : List Int) (s : Int) : Gd (s - ((row.length : Int) - 1)) (stepP row s) :=
  ⟨back_mono _ (st1_mono _ _ _), back_lip _, nn_le2 (st1_nn _ _ _) (back_ge _), low_le2 (st1_low _ _ _ _ (by simp)) (back_ge _)⟩
theorem stepP_least {row us : List Int} {s : Int} (h : Gd (s - ((row.length : Int) - 1)) us) (g : le2 row us) : le2 (stepP row s) us :=
  back_least _ _ h.li (st1_least _ _ _ _ _ (by simp) h.mo h.no g h.lo)
theorem stepP_fix {row : List Int} {s : Int} (h : Gd (s - ((row.length : Int) - 1)) row) : stepP row s = row := le2_anti (stepP_least h (le2_refl row)) (stepP_ge row s)
/-! ### the more of two -/
theorem mx_cons (x y : Int) (xs ys : List Int) : mx (x :: xs) (y :: ys) = max x y :: mx xs ys := rfl
theorem mxg_cons (g x y : Int) (xs ys : List Int) : mxg g (x :: xs) (y :: ys) = max x (y - g) :: mxg g xs ys := rfl
theorem mx_ge1 : ∀ {a b : List Int}, a.length = b.length → le2 a (mx a b)
  | [], [], _ => trivial
  | x :: xs, y :: ys, h => ⟨by (dsimp only; omega), mx_ge1 (Nat.succ.inj h)⟩
theorem mx_ge2 : ∀ {a b : List Int}, a.length = b.length → le2 b (mx a b)
  | [], [], _ => trivial
  | x :: xs, y :: ys, h => ⟨by (dsimp only; omega), mx_ge2 (Nat.succ.inj h)⟩
theorem mx_le : ∀ {a b u : List Int}, le2 a u → le2 b u → le2 (mx a b) u
  | [], [], [], _, _ => trivial
  | x :: xs, y :: ys, u :: us, h, g => ⟨by have := h.1; have := g.1; (dsimp only; omega), mx_le h.2 g.2⟩
  | [], [], _ :: _, h, _ => h.elim
  | [], _ :: _, [], _, g => g.elim
  | [], _ :: _, _ :: _, h, _ => h.elim
  | _ :: _, [], [], h, _ => h.elim
  | _ :: _, [], _ :: _, _, g => g.elim
  | _ :: _, _ :: _, [], h, _ => h.elim
theorem mx_len {a b : List Int} (h : a.length = b.length) : (mx a b).length = b.length := (le2_len (mx_ge2 h)).symm
theorem mx_mono : ∀ {a b : List Int}, mono a → mono b → mono (mx a b)
  | [], _, _, _ => trivial
  | _ :: _, [], _, _ => trivial
  | [_], _ :: _, _, _ => trivial
  | _ :: _ :: _, [_], _, _ => trivial
  | x :: x' :: xs, y :: y' :: ys, h, g => ⟨by have := h.1; have := g.1; (dsimp only; omega), mx_mono h.2 g.2⟩
theorem mx_lip : ∀ {a b : List Int}, lip a → lip b → lip (mx a b)
  | [], _, _, _ => trivial
  | _ :: _, [], _, _ => trivial
  | [_], _ :: _, _, _ => trivial
  | _ :: _ :: _, [_], _, _ => trivial
  | x :: x' :: xs, y :: y' :: ys, h, g => ⟨by have := h.1; have := g.1; (dsimp only; omega), mx_lip h.2 g.2⟩
theorem mx_gd {a b : List Int} {c c' : Int} (h : Gd c a) (g : Gd c' b) (e : a.length = b.length) : Gd c' (mx a b) :=
  ⟨mx_mono h.mo g.mo, mx_lip h.li g.li, nn_le2 h.no (mx_ge1 e), low_le2 g.lo (mx_ge2 e)⟩
theorem mxg_ge : ∀ {g : Int} {a b : List Int}, a.length = b.length → le2 a (mxg g a b)
  | _, [], [], _ => trivial
  | g, x :: xs, y :: ys, h => ⟨by (dsimp only; omega), mxg_ge (Nat.succ.inj h)⟩
theorem mxg_leg : ∀ {g : Int} {a b : List Int}, a.length = b.length → leg g b (mxg g a b)
  | _, [], [], _ => trivial
  | g, x :: xs, y :: ys, h => ⟨by (dsimp only; omega), mxg_leg (Nat.succ.inj h)⟩
theorem mxg_le : ∀ {g : Int} {a b u : List Int}, le2 a u → leg g b u → le2 (mxg g a b) u
  | _, [], [], [], _, _ => trivial
  | g, x :: xs, y :: ys, u :: us, h, k => ⟨by have := h.1; have := k.1; (dsimp only; omega), mxg_le h.2 k.2⟩
  | _, [], [], _ :: _, h, _ => h.elim
  | _, [], _ :: _, [], _, g => g.elim
  | _, [], _ :: _, _ :: _, h, _ => h.elim
  | _, _ :: _, [], [], h, _ => h.elim
  | _, _ :: _, [], _ :: _, _, g => g.elim
  | _, _ :: _, _ :: _, [], h, _ => h.elim
theorem leg_of_le2 : ∀ {g : Int} {a b : List Int}, 0 ≤ g → le2 a b → leg g a b
  | _, [], [], _, _ => trivial
  | g, x :: xs, y :: ys, h, k => ⟨by have := k.1; omega, leg_of_le2 h k.2⟩
  | _, [], _ :: _, _, h => h.elim
  | _, _ :: _, [], _, h => h.elim
theorem mxg_len {g : Int} {a b : List Int} (h : a.length = b.length) : (mxg g a b).length = a.length := (le2_len (mxg_ge h)).symm
theorem mxg_mono : ∀ {g : Int} {a b : List Int}, mono a → mono b → mono (mxg g a b)
  | _, [], _, _, _ => trivial
  | _, _ :: _, [], _, _ => trivial
  | _, [_], _ :: _, _, _ => trivial
  | _, _ :: _ :: _, [_], _, _ => trivial
  | g, x :: x' :: xs, y :: y' :: ys, h, k => ⟨by have := h.1; have := k.1; (dsimp only; omega), mxg_mono h.2 k.2⟩
theorem mxg_lip : ∀ {g : Int} {a b : List Int}, lip a → lip b → lip (mxg g a b)
  | _, [], _, _, _ => trivial
  | _, _ :: _, [], _, _ => trivial
  | _, [_], _ :: _, _, _ => trivial
  | _, _ :: _ :: _, [_], _, _ => trivial
  | g, x :: x' :: xs, y :: y' :: ys, h, k => ⟨by have := h.1; have := k.1; (dsimp only; omega), mxg_lip h.2 k.2⟩
theorem mxg_gd {g : Int} {a b : List Int} {c c' : Int} (h : Gd c a) (k : Gd c' b) (e : a.length = b.length) : Gd c (mxg g a b) :=
  ⟨mxg_mono h.mo k.mo, mxg_lip h.li k.li, nn_le2 h.no (mxg_ge e), low_le2 h.lo (mxg_ge e)⟩
end FW

/-! FwD: the rows together. -/
namespace FW
open PySem FK
/-- floors above w, of the size s: each above the last -/
def G2p (m : Nat) (w : List Int) : List Int → List (List Int) → Prop
  | [], [] => True
  | s' :: ss, w' :: ws => Gd (s' - (m : Int)) w' ∧ w'.length = m + 1 ∧ le2 w w' ∧ G2p m w' ss ws
  | _, _ => False
def Np (m : Nat) (s : Int) (w : List Int) : List Int → List (List Int) → Prop
  | [], [] => True
  | s' :: ss, w' :: ws => Gd (s' - (m : Int)) w' ∧ w'.length = m + 1 ∧ le2 w w' ∧ leg (s' - s) w' w ∧ Np m s' w' ss ws
  | _, _ => False
def upF (s : Int) : List Int → Prop
  | [] => True
  | s' :: ss => s ≤ s' ∧ upF s' ss
def Nest (m : Nat) : List Int → List (List Int) → Prop
  | s :: ss, w :: ws => Gd (s - (m : Int)) w ∧ w.length = m + 1 ∧ Np m s w ss ws
  | _, _ => False
theorem mx_same {a b : List Int} (h : le2 a b) : mx a b = b := le2_anti (mx_le h (le2_refl b)) (mx_ge2 (le2_len h))
theorem mxg_same {g : Int} {a b : List Int} (h : leg g b a) (e : a.length = b.length) : mxg g a b = a := le2_anti (mxg_le (le2_refl a) h) (mxg_ge e)
/-! ### what is nested stays -/
section
variable {m : Nat}
theorem stepP_same {s : Int} {w : List Int} (h : Gd (s - (m : Int)) w) (e : w.length = m + 1) : stepP w s = w := by
  refine stepP_fix ?_
  rw [e, show ((m + 1 : Nat) : Int) - 1 = (m : Int) by omega]
  exact h
theorem steps_same : ∀ {ss : List Int} {ws : List (List Int)} {s : Int} {w : List Int}, Np m s w ss ws → stepsP ws ss = ws
  | [], [], _, _, _ => rfl
  | s' :: ss, w' :: ws, s, w, h => by
    show stepP w' s' :: stepsP ws ss = w' :: ws
    rw [stepP_same h.1 h.2.1, steps_same h.2.2.2.2]
  | [], _ :: _, _, _, h => h.elim
  | _ :: _, [], _, _, h => h.elim
theorem up_same : ∀ {ss : List Int} {ws : List (List Int)} {s : Int} {w : List Int}, Np m s w ss ws → upGo w ws = ws
  | [], [], _, _, _ => rfl
  | s' :: ss, w' :: ws, s, w, h => by
    show mx w w' :: upGo (mx w w') ws = w' :: ws
    rw [mx_same h.2.2.1, up_same h.2.2.2.2]
  | [], _ :: _, _, _, h => h.elim
  | _ :: _, [], _, _, h => h.elim
theorem dn_same : ∀ {ss : List Int} {ws : List (List Int)} {s : Int} {w : List Int}, w.length = m + 1 → Np m s w ss ws → dnP (s :: ss) (w :: ws) = w :: ws
  | [], [], s, w, _, _ => dnP_one s w
  | s' :: ss, w' :: ws, s, w, e, h => by
    rw [dnP_cons s s' ss w w' ws (dn_same h.2.1 h.2.2.2.2), mxg_same h.2.2.2.1 (by rw [e, h.2.1])]
  | [], _ :: _, _, _, _, h => h.elim
  | _ :: _, [], _, _, _, h => h.elim
theorem nest_same : ∀ {ss : List Int} {ws : List (List Int)}, Nest m ss ws → wordsP ws ss = ws
  | s :: ss, w :: ws, h => by
    show dnP (s :: ss) (upP (stepP w s :: stepsP ws ss)) = w :: ws
    rw [stepP_same h.1 h.2.1, steps_same h.2.2]
    show dnP (s :: ss) (w :: upGo w ws) = _
    rw [up_same h.2.2, dn_same h.2.1 h.2.2]
  | [], _, h => h.elim
  | _ :: _, [], h => h.elim
/-! ### what comes out is nested -/
def Len (m : Nat) (ws : List (List Int)) : Prop := ∀ w ∈ ws, w.length = m + 1
theorem up_nest : ∀ {ss : List Int} {rows : List (List Int)} {w : List Int} {c : Int}, rows.length = ss.length → Len m rows → Gd c w → w.length = m + 1 → G2p m w ss (upGo w (stepsP rows ss))
  | [], [], _, _, _, _, _, _ => trivial
  | s :: ss, r :: rows, w, c, h, hl, g, e => by
    have er := hl r (List.mem_cons_self ..)
    have g1 : Gd (s - (m : Int)) (stepP r s) := by
      have := stepP_gd r s
      rwa [er, show ((m + 1 : Nat) : Int) - 1 = (m : Int) by omega] at this
    have e1 : (stepP r s).length = m + 1 := by rw [stepP_len, er]
    have e2 : w.length = (stepP r s).length := by rw [e, e1]
    refine ⟨mx_gd g g1 e2, by rw [mx_len e2, e1], mx_ge1 e2, ?_⟩
    exact up_nest (Nat.succ.inj h) (fun w hw => hl w (List.mem_cons_of_mem _ hw)) (mx_gd g g1 e2) (by rw [mx_len e2, e1])
  | [], _ :: _, _, _, h, _, _, _ => by cases h
  | _ :: _, [], _, _, h, _, _, _ => by cases h
theorem dn_nest : ∀ {ss : List Int} {ws : List (List Int)} {s : Int} {w : List Int}, Gd (s - (m : Int)) w → w.length = m + 1 → G2p m w ss ws → upF s ss → ∃ v vs, dnP (s :: ss) (w :: ws) = v :: vs ∧ Gd (s - (m : Int)) v ∧ v.length = m + 1 ∧ le2 w v ∧ Np m s v ss vs
  | [], [], s, w, g, e, _, _ => ⟨w, [], dnP_one s w, g, e, le2_refl w, trivial⟩
  | s' :: ss, w' :: ws, s, w, g, e, h, u => by
    obtain ⟨v, vs, h1, h2, h3, h4, h5⟩ := dn_nest h.1 h.2.1 h.2.2.2 u.2
    have el : w.length = v.length := by rw [e, h3]
    refine ⟨_, _, dnP_cons s s' ss w w' ws h1, mxg_gd g h2 el, by rw [mxg_len el, e], mxg_ge el, h2, h3, ?_, mxg_leg el, h5⟩
    exact mxg_le (le2_trans h.2.2.1 h4) (leg_of_le2 (by have := u.1; omega) (le2_refl v))
  | [], _ :: _, _, _, _, _, h, _ => h.elim
  | _ :: _, [], _, _, _, _, h, _ => h.elim
theorem words_nest {rows : List (List Int)} {s : Int} {ss : List Int} (h : rows.length = (s :: ss).length) (hl : Len m rows) (u : upF s ss) : Nest m (s :: ss) (wordsP rows (s :: ss)) := by
  cases rows with
  | nil => cases h
  | cons r rows =>
    have er := hl r (List.mem_cons_self ..)
    have g1 : Gd (s - (m : Int)) (stepP r s) := by
      have := stepP_gd r s
      rwa [er, show ((m + 1 : Nat) : Int) - 1 = (m : Int) by omega] at this
    have e1 : (stepP r s).length = m + 1 := by rw [stepP_len, er]
    have hu := up_nest (Nat.succ.inj h) (fun w hw => hl w (List.mem_cons_of_mem _ hw)) g1 e1
    obtain ⟨v, vs, h1, h2, h3, _, h5⟩ := dn_nest g1 e1 hu u
    have : wordsP (r :: rows) (s :: ss) = v :: vs := h1
    rw [this]
    exact ⟨h2, h3, h5⟩
/-! ### the last look -/
theorem low_get : ∀ {w : List Int} {c : Int} {p : Nat} {x : Int}, low c w → w[p]? = some x → c + (p : Int) ≤ x
  | [], _, _, _, _, e => by simp at e
  | y :: w, c, 0, x, h, e => by
    simp at e; subst e
    have := h.1
    simpa using this
  | y :: w, c, p + 1, x, h, e => by
    have := low_get (p := p) h.2 (by simpa using e)
    push_cast
    omega
theorem nn_mem : ∀ {w : List Int} {c x : Int}, nn c w → x ∈ w → c ≤ x
  | y :: w, c, x, h, e => by
    rcases List.mem_cons.mp e with rfl | e
    · exact h.1
    · exact nn_mem h.2 e
theorem okW_get {w : List Int} {s : Int} (h : okW w s = true) {p : Nat} {x : Int} (e : w[p]? = some x) : x ≤ p ∧ x ≤ s := by
  unfold okW at h
  rw [Bool.not_eq_true', List.any_eq_false] at h
  have := h (x, p) (by rw [List.mem_zipIdx_iff_getElem?]; simpa using e)
  simp only [decide_eq_true_eq] at this
  omega
theorem okW_bad {s : Int} {w : List Int} (g : Gd (s - (m : Int)) w) (e : w.length = m + 1) (h : (m : Int) < s) : okW w s = false := by
  cases q : okW w s with
  | false => rfl
  | true =>
    obtain ⟨x, hx⟩ : ∃ x, w[m]? = some x := ⟨w[m]'(by omega), List.getElem?_eq_getElem (by omega)⟩
    have h1 := low_get g.lo hx
    have h2 := okW_get q hx
    omega
theorem okP_cons (w : List Int) (ws : List (List Int)) (s : Int) (ss : List Int) : okP (w :: ws) (s :: ss) = (okW w s && okP ws ss) := rfl
theorem okP_bad : ∀ {ss : List Int} {ws : List (List Int)} {s : Int} {w : List Int}, Gd (s - (m : Int)) w → w.length = m + 1 → Np m s w ss ws → (m : Int) < (s :: ss).getLast (List.cons_ne_nil _ _) → okP (w :: ws) (s :: ss) = false
  | [], [], s, w, g, e, _, h => by
    rw [okP_cons, okW_bad g e h]; rfl
  | s' :: ss, w' :: ws, s, w, _, _, n, h => by
    rw [okP_cons, okP_bad n.1 n.2.1 n.2.2.2.2 (by rwa [List.getLast_cons (List.cons_ne_nil s' ss)] at h), Bool.and_false]
  | [], _ :: _, _, _, _, _, h, _ => h.elim
  | _ :: _, [], _, _, _, _, h, _ => h.elim
/-! ### sizes -/
theorem upB_iff : ∀ {s : Int} {ss : List Int}, upB (s :: ss) = true ↔ upF s ss
  | _, [] => ⟨fun _ => trivial, fun _ => rfl⟩
  | s, s' :: ss => by
    have ih := upB_iff (s := s') (ss := ss)
    show ((decide (s ≤ s') && ((s' :: ss).zip ss).all fun q => decide (q.1 ≤ q.2)) = true) ↔ (s ≤ s' ∧ upF s' ss)
    rw [Bool.and_eq_true, decide_eq_true_iff, ← ih]
    rfl
theorem areP_cons (x : Int) (xs : List Int) (many : Int) : areP (x :: xs) many = (!(decide (x < 0) || decide (many < (x :: xs).getLast (List.cons_ne_nil _ _))) && upB (x :: xs)) := rfl
/-- what the law asks of the sizes -/
def downB (ss : List Int) : Bool := ((0 :: ss).zip ss).any fun q => decide (q.2 < q.1)
theorem downB_iff {s : Int} {ss : List Int} : downB (s :: ss) = false ↔ 0 ≤ s ∧ upF s ss := by
  have h : downB (s :: ss) = !(decide (0 ≤ s) && upB (s :: ss)) := by
    have e : ∀ (a : Int) (xs : List Int), (((a :: xs).zip xs).any fun q => decide (q.2 < q.1)) = !upB (a :: xs) := by
      intro a xs
      unfold upB
      rw [List.not_all_eq_any_not]
      congr 1
      funext q
      by_cases h : q.1 ≤ q.2
      · rw [decide_eq_true h, decide_eq_false (by omega)]; rfl
      · rw [decide_eq_false h, decide_eq_true (by omega)]; rfl
    show (((0 : Int) :: s :: ss).zip (s :: ss)).any _ = _
    rw [e 0 (s :: ss)]
    rfl
  rw [h, Bool.not_eq_false', Bool.and_eq_true, decide_eq_true_iff, upB_iff]
def lawT (rows : List (List Int)) (ss : List Int) : Option (List (List Int)) := if downB ss then none else if okP (wordsP rows ss) ss then some (wordsP rows ss) else none
theorem lawT_eq {rows : List (List Int)} {ss : List Int} (h0 : rows ≠ []) (h : rows.length = ss.length) (hl : Len m rows) : lawT rows ss = tightP rows ss := by
  obtain ⟨r, rs, rfl⟩ := List.exists_cons_of_ne_nil h0
  obtain ⟨s, ss, rfl⟩ : ∃ s t, ss = s :: t := List.exists_cons_of_ne_nil (by
    intro e; rw [e] at h; cases h)
  have er := hl r (List.mem_cons_self ..)
  unfold lawT
  show _ = (if areP (s :: ss) ((r.length : Int) - 1) && okP (wordsP (r :: rs) (s :: ss)) (s :: ss) then some (wordsP (r :: rs) (s :: ss)) else none)
  rw [er, show ((m + 1 : Nat) : Int) - 1 = (m : Int) by omega]
  cases hd : downB (s :: ss) with
  | true =>
    have : areP (s :: ss) m = false := by
      cases ha : areP (s :: ss) m with
      | false => rfl
      | true =>
        unfold areP at ha
        simp only [Bool.and_eq_true, Bool.not_eq_true', Bool.or_eq_false_iff, decide_eq_false_iff_not] at ha
        have := (downB_iff (s := s) (ss := ss)).mpr ⟨by omega, upB_iff.mp ha.2⟩
        rw [hd] at this
        cases this
    rw [this]
    rfl
  | false =>
    obtain ⟨h1, h2⟩ := downB_iff.mp hd
    have hn := words_nest h hl h2
    cases ha : areP (s :: ss) m with
    | true => rw [Bool.true_and]; rfl
    | false =>
      have hm : (m : Int) < (s :: ss).getLast (List.cons_ne_nil _ _) := by
        rw [areP_cons] at ha
        have hu := upB_iff.mpr h2
        rw [hu, Bool.and_true, Bool.not_eq_false', Bool.or_eq_true, decide_eq_true_iff, decide_eq_true_iff] at ha
        rcases ha with ha | ha
        · omega
        · exact ha
      have hk : okP (wordsP (r :: rs) (s :: ss)) (s :: ss) = false := by
        generalize wordsP (r :: rs) (s :: ss) = W at hn
        cases W with
        | nil => exact hn.elim
        | cons w ws => exact okP_bad hn.1 hn.2.1 hn.2.2 hm
      rw [hk]
      rfl
theorem np_len : ∀ {ss : List Int} {ws : List (List Int)} {s : Int} {w : List Int}, Np m s w ss ws → ws.length = ss.length
  | [], [], _, _, _ => rfl
  | s' :: ss, w' :: ws, s, w, h => by rw [List.length_cons, List.length_cons, np_len h.2.2.2.2]
  | [], _ :: _, _, _, h => h.elim
  | _ :: _, [], _, _, h => h.elim
theorem np_all : ∀ {ss : List Int} {ws : List (List Int)} {s : Int} {w : List Int}, Np m s w ss ws → ∀ v ∈ ws, v.length = m + 1 ∧ mono v ∧ nn 0 v
  | [], [], _, _, _, v, hv => by cases hv
  | s' :: ss, w' :: ws, s, w, h, v, hv => by
    rcases List.mem_cons.mp hv with rfl | hv
    · exact ⟨h.2.1, h.1.mo, h.1.no⟩
    · exact np_all h.2.2.2.2 v hv
  | [], _ :: _, _, _, h, _, _ => h.elim
  | _ :: _, [], _, _, h, _, _ => h.elim
/-- what tightened gives -/
structure Tight (m : Nat) (W : List (List Int)) (ss : List Int) : Prop where
  nil : W ≠ []
  len : W.length = ss.length
  all : ∀ v ∈ W, v.length = m + 1 ∧ mono v ∧ nn 0 v
  top : ∀ v ∈ W, ∀ x ∈ v, x ≤ (m : Int)
  again : tightP W ss = some W
theorem okP_all : ∀ {ws : List (List Int)} {ss : List Int}, ws.length = ss.length → okP ws ss = true → ∀ w ∈ ws, ∃ s, okW w s = true
  | [], _, _, _, w, hw => by cases hw
  | w' :: ws, [], h, _, _, _ => by cases h
  | w' :: ws, s :: ss, h, hk, w, hw => by
    rw [okP_cons, Bool.and_eq_true] at hk
    rcases List.mem_cons.mp hw with rfl | hw
    · exact ⟨s, hk.1⟩
    · exact okP_all (Nat.succ.inj h) hk.2 w hw
theorem tight_of {rows W : List (List Int)} {ss : List Int} (h : rows.length = ss.length) (hl : Len m rows) (e : tightP rows ss = some W) : Tight m W ss := by
  cases rows with
  | nil => cases e
  | cons r rs =>
    have er := hl r (List.mem_cons_self ..)
    have e' : (if areP ss ((r.length : Int) - 1) && okP (wordsP (r :: rs) ss) ss then some (wordsP (r :: rs) ss) else none) = some W := e
    rw [er, show ((m + 1 : Nat) : Int) - 1 = (m : Int) by omega] at e'
    split at e'
    · rename_i hc
      cases e'
      rw [Bool.and_eq_true] at hc
      obtain ⟨s, ss, rfl⟩ : ∃ s t, ss = s :: t := List.exists_cons_of_ne_nil (by
        intro e; rw [e] at h; cases h)
      have ha := hc.1
      unfold areP at ha
      rw [Bool.and_eq_true] at ha
      have hn := words_nest h hl (upB_iff.mp ha.2)
      have hs := nest_same hn
      have hk := hc.2
      generalize wordsP (r :: rs) (s :: ss) = W at hn hs hk
      cases W with
      | nil => exact hn.elim
      | cons w ws =>
        have hlen : (w :: ws).length = (s :: ss).length := by rw [List.length_cons, List.length_cons, np_len hn.2.2]
        have hall : ∀ v ∈ w :: ws, v.length = m + 1 ∧ mono v ∧ nn 0 v := fun v hv => by
          rcases List.mem_cons.mp hv with rfl | hv
          · exact ⟨hn.2.1, hn.1.mo, hn.1.no⟩
          · exact np_all hn.2.2 v hv
        refine ⟨by simp, hlen, hall, fun v hv x hx => ?_, ?_⟩
        · obtain ⟨s', hs'⟩ := okP_all hlen hk v hv
          obtain ⟨p, hp, e⟩ := List.mem_iff_getElem.mp hx
          have := (okW_get hs' (p := p) (x := x) (by rw [List.getElem?_eq_getElem hp, e])).1
          have := (hall v hv).1
          omega
        · show (if areP (s :: ss) ((w.length : Int) - 1) && okP (wordsP (w :: ws) (s :: ss)) (s :: ss) then some (wordsP (w :: ws) (s :: ss)) else none) = some (w :: ws)
          rw [hs, hk, hn.2.1, show ((m + 1 : Nat) : Int) - 1 = (m : Int) by omega, hc.1]
          rfl
    · cases e'
end
end FW

/-! FwE: the law's own tightening. -/
namespace FW
open PySem FK
/-! _law_tightened : 0 _law_rows_here, 1 _law_sizes, 2 _law_floors, 3 _law_many, 4 _law_words, 5 _law_one_here, 6 _law_other, 7 _law_row, 8 _law_size, 9 _law_word, 10 _law_ahead, 11 _law_count, 12 _law_floor, 13 _law_more -/
def b1__law_tightened : MS := (sSeq (sSet 10 (mFn oMax [(.nm 10), (.nm 5), (.ex (mBin oAdd (.ex (mBin oSub (.nm 8) (.nm 3))) (.nm 11)))]))
  (sApp 9 (mV 10)))
def b2__law_tightened : MS := (sItem 9 (mV 11) (mFn oMax [(.ex (mBin oIx (.nm 9) (.nm 11))), (.ex (mBin oSub (.ex (mBin oIx (.nm 9) (.ex (mBin oAdd (.nm 11) (.ex (mC (.int 1))))))) (.ex (mC (.int 1)))))]))
def b3__law_tightened : MS := (sSeq (sPar [9, 10] [(mLst []), (mC (.int 0))])
  (sSeq (sFor (itEnum (mV 7)) (.tup [(.nm 11), (.nm 5)]) b1__law_tightened)
  (sSeq (sFor (itRng [(.ex (mBin oSub (.nm 3) (.ex (mC (.int 1))))), (.ex (mUn oNeg (.ex (mC (.int 1))))), (.ex (mUn oNeg (.ex (mC (.int 1)))))]) (.nm 11) b2__law_tightened)
  (sApp 4 (mV 9)))))
def b4__law_tightened : MS := (sItem 4 (mV 12) (mComp [5, 6] (itZip (mBin oIx (.nm 4) (.nm 12)) (mBin oIx (.nm 4) (.ex (mBin oSub (.nm 12) (.ex (mC (.int 1))))))) (.tup [(.nm 5), (.nm 6)]) mYes (mFn oMax [(.nm 5), (.nm 6)])))
def b5__law_tightened : MS := (sSeq (sSet 13 (mBin oSub (.ex (mBin oIx (.nm 1) (.ex (mBin oAdd (.nm 12) (.ex (mC (.int 1))))))) (.ex (mBin oIx (.nm 1) (.nm 12)))))
  (sItem 4 (mV 12) (mComp [5, 6] (itZip (mBin oIx (.nm 4) (.nm 12)) (mBin oIx (.nm 4) (.ex (mBin oAdd (.nm 12) (.ex (mC (.int 1))))))) (.tup [(.nm 5), (.nm 6)]) mYes (mFn oMax [(.nm 5), (.ex (mBin oSub (.nm 6) (.nm 13)))]))))
def b6__law_tightened : MS := (sIf (asT (mBin oNe (.ex (mComp [11, 5] (itEnum (mV 9)) (.tup [(.nm 11), (.nm 5)]) (asT (mBin oGt (.nm 5) (.ex (mFn oMin [(.nm 11), (.nm 8)])))) (mC (.int 1)))) (.ex (mLst []))))
  (sRet (mC .none))
  sNx)
def m__law_tightened : MS := (sSeq (sPar [2, 3, 4] [(mFn oLen [(.nm 0)]), (mBin oSub (.ex (mFn oLen [(.ex (mBin oIx (.nm 0) (.ex (mC (.int 0)))))])) (.ex (mC (.int 1)))), (mLst [])])
  (sSeq (sIf (asT (mBin oNe (.ex (mComp [5, 6] (itZip (mBin oAdd (.ex (mTup [(false, (mC (.int 0)))])) (.nm 1)) (mV 1)) (.tup [(.nm 5), (.nm 6)]) (asT (mBin oLt (.nm 6) (.nm 5))) (mC (.int 1)))) (.ex (mLst []))))
  (sRet (mC .none))
  sNx)
  (sSeq (sFor (itZip (mV 0) (mV 1)) (.tup [(.nm 7), (.nm 8)]) b3__law_tightened)
  (sSeq (sFor (itRng [(.ex (mC (.int 1))), (.nm 2)]) (.nm 12) b4__law_tightened)
  (sSeq (sFor (itRng [(.ex (mBin oSub (.nm 2) (.ex (mC (.int 2))))), (.ex (mUn oNeg (.ex (mC (.int 1))))), (.ex (mUn oNeg (.ex (mC (.int 1)))))]) (.nm 12) b5__law_tightened)
  (sSeq (sFor (itZip (mV 4) (mV 1)) (.tup [(.nm 9), (.nm 8)]) b6__law_tightened)
  (sRet (mFn oTuple [(.ex (mComp [9] (itSeq (mV 4)) (.nm 9) mYes (mFn oTuple [(.nm 9)])))]))))))))
def e__law_tightened : FnE := ⟨fnOf 14 m__law_tightened, 2, false⟩
/-! _law_is_told : 0 _law_rows_here, 1 _law_sizes, 2 _law_due, 3 _law_shown, 4 _law_again -/
def b1__law_is_told : MS := (sIf (mOr (mNot (mT (.ex (mCall e__law_alike [(false, (mCall e_tightened [(false, (mV 0)), (false, (mV 1))])), (false, (mV 2))])))) (asT (mBin oNe (.ex (mFn oRepr [(.ex (mLst [(false, (mV 0)), (false, (mV 1))]))])) (.nm 3))))
  (sRet (mC (.bool false)))
  sNx)
def m__law_is_told : MS := (sSeq (sPar [2, 3] [(mCall e__law_tightened [(false, (mV 0)), (false, (mV 1))]), (mFn oRepr [(.ex (mLst [(false, (mV 0)), (false, (mV 1))]))])])
  (sSeq (sFor (itRng [(.ex (mC (.int 2)))]) (.nm 4) b1__law_is_told)
  (sRet (mOrV (mBin oIs (.nm 2) (.ex (mC .none))) (mCall e__law_alike [(false, (mCall e_tightened [(false, (mV 2)), (false, (mV 1))])), (false, (mV 2))])))))
def e__law_is_told : FnE := ⟨fnOf 5 m__law_is_told, 2, false⟩
/-! _law_known_sizes : 0 _law_known, 1 _law_word -/
def m__law_known_sizes : MS := (sRet (mFn oTuple [(.ex (mComp [1] (itSeq (mBin oIx (.nm 0) (.ex (mC (.int 1))))) (.nm 1) mYes (mBin oIx (.nm 1) (.ex (mUn oNeg (.ex (mC (.int 1))))))))]))
def e__law_known_sizes : FnE := ⟨fnOf 2 m__law_known_sizes, 1, false⟩
theorem ne_nil0 {xs : List FK.D} (hp : PyData.plainAll xs = true) : oNe (.list xs) (.list []) = some (.fz (.bool (!xs.isEmpty))) := by
  have hc : cmpOk (.list xs) (.list []) = true := by
    unfold cmpOk
    have e1 : (PyData.list xs).plain = true := hp
    have e2 : (PyData.list []).depth = 1 := rfl
    rw [e1, decide_eq_true (by omega : min (PyData.list xs).depth (PyData.list []).depth ≤ 64)]
    rfl
  rw [ne_list, if_pos hc]
  cases xs <;> rfl
theorem plain_flat {α : Type} {i : Int} (p : α → Prop) [DecidablePred p] : ∀ L : List α, PyData.plainAll (L.flatMap fun q => if p q then [PyData.int i] else []) = true
  | [] => rfl
  | x :: xs => by
    rw [List.flatMap_cons]
    by_cases h : p x
    · rw [if_pos h]
      exact plain_flat p xs
    · rw [if_neg h]
      exact plain_flat p xs
theorem ne_nil {α : Type} {i : Int} (p : α → Prop) [DecidablePred p] (L : List α) : oNe (.list (L.flatMap fun q => if p q then [PyData.int i] else [])) (.list []) = some (.fz (.bool (!(L.flatMap fun q => if p q then [PyData.int i] else []).isEmpty))) := ne_nil0 (plain_flat p L)
theorem flat_if {α : Type} {d : FK.D} (p : α → Prop) [DecidablePred p] : ∀ L : List α, (L.flatMap fun q => if p q then [d] else []).isEmpty = !(L.any fun q => decide (p q))
  | [] => rfl
  | x :: xs => by
    rw [List.flatMap_cons, List.any_cons]
    by_cases h : p x
    · rw [if_pos h, decide_eq_true h]; rfl
    · rw [if_neg h, decide_eq_false h, Bool.false_or, ← flat_if p xs]
      rfl
section
variable {R S F : Option Val} {m : Nat}
/-- a row's word -/
theorem lt_row {row : List Int} {s : Int} {x5 x6 x9 x10 x11 x12 x13 : Option Val} {Q : Fl → Rho → Prop} {ws : List FK.D} (h1 : row.length = m + 1) (hm : m ≤ 1000) (hw : ws.length ≤ 1000)
    (fin : ∀ x5 x10 x11, isOwn (some x5) = false → isOwn (some x11) = false → Q .nx [R, S, F, some (.fz (.int (m : Int))), some (.ow (ws ++ [lisI (stepP row s)])), x5, x6, some (.fz (tupI row)), some (.fz (.int s)), some (.fz (lisI (stepP row s))), x10, x11, x12, x13]) (h5 : isOwn (some x5) = false) (h11 : isOwn (some x11) = false) :
    wp b3__law_tightened [R, S, F, some (.fz (.int (m : Int))), some (.ow ws), x5, x6, some (.fz (tupI row)), some (.fz (.int s)), x9, x10, x11, x12, x13] Q := by
  have hm3 : m ≤ 1000000 := by omega
  unfold b3__law_tightened
  simp_arith
  refine wp_enum (enc := PyData.int) (fun p rest ρ => ∃ pre acc x5 x11, isOwn (some x5) = false ∧ isOwn (some x11) = false ∧ ρ = [R, S, F, some (.fz (.int (m : Int))), some (.ow ws), x5, x6, some (.fz (tupI row)), some (.fz (.int s)), some (.ow (intsD pre)), some (.fz (.int acc)), x11, x12, x13] ∧
    pre ++ st1 (m : Int) s acc p rest = st1 (m : Int) s 0 0 row ∧ pre.length + rest.length = row.length) (fun p x rest ρ h => ?_) (fun p ρ h => ?_) ⟨[], 0, _, _, h5, h11, rfl, rfl, by simp⟩
  · obtain ⟨pre, acc, x5, x11, h5, h11, rfl, e1, e2⟩ := h
    unfold b1__law_tightened
    simp_arith
    refine ⟨?_, pre ++ [max (max acc x) (s - (m : Int) + (p : Int))], _, _, _, rfl, rfl, by rw [ints_app, ints_one], ?_, ?_⟩
    · simp only [List.length_cons] at e2; omega
    · rw [List.append_assoc]; exact e1
    · simp only [List.length_append, List.length_cons, List.length_nil] at e2 ⊢; omega
  · obtain ⟨pre, acc, x5, x11, h5, h11, rfl, e1, e2⟩ := h
    have hs : stepP row s = back (st1 (m : Int) s 0 0 row) := by
      unfold stepP
      rw [h1, show ((m + 1 : Nat) : Int) - 1 = (m : Int) by omega]
    have hl := st1_len (m := (m : Int)) (s := s) row 0 0
    have ep : pre = st1 (m : Int) s 0 0 row := by rw [← e1]; exact (List.append_nil _).symm
    generalize hL : st1 (m : Int) s 0 0 row = L at ep hl hs
    subst ep
    simp_arith [rngOf3 hm3]
    refine wp_down (fun p ρ => ∃ A B y ys x11, isOwn (some x11) = false ∧ pre = A ++ B ∧ A.length = p ∧ back B = y :: ys ∧ ρ = [R, S, F, some (.fz (.int (m : Int))), some (.ow ws), x5, x6, some (.fz (tupI row)), some (.fz (.int s)), some (.ow (intsD A ++ PyData.int y :: intsD ys)), some (.fz (.int acc)), x11, x12, x13]) (fun p ρ hp h => ?_) (fun ρ h => ?_) ?_
    · obtain ⟨A, B, y, ys, x4, h4, e1, e2, e3, rfl⟩ := h
      obtain ⟨A', x, rfl, hA⟩ := snoc_of e2
      have ei : intsD (A' ++ [x]) ++ PyData.int y :: intsD ys = intsD A' ++ PyData.int x :: PyData.int y :: intsD ys := by
        rw [ints_app, ints_one, List.append_assoc]; rfl
      have hA' : ((intsD A').length : Int) = (p : Int) := by rw [List.length_map, hA]
      unfold b2__law_tightened
      simp_arith [ei, getAt_mid hA'.symm, getAt_mid1 (show (p : Int) + 1 = ((intsD A').length : Int) + 1 by omega), putAt_mid hA'.symm]
      exact ⟨A', x :: B, _, y :: ys, _, rfl, by rw [e1, List.append_assoc]; rfl, hA, back_two e3, rfl⟩
    · obtain ⟨A, B, y, ys, x4, h4, e1, e2, e3, rfl⟩ := h
      have : A = [] := List.eq_nil_of_length_eq_zero e2
      subst this
      have hwl : ws.length < 16777216 := by omega
      simp_arith [hwl]
      have eD : PyData.int y :: intsD ys = intsD (stepP row s) := by
        rw [hs, e1, List.nil_append, e3]; rfl
      rw [eD]
      exact fin _ _ _ h5 h4
    · obtain ⟨A, z, rfl, hA⟩ := snoc_of (hl.trans h1)
      exact ⟨A, [z], _, [], _, h11, rfl, hA, rfl, by rw [ints_app, ints_one]; rfl⟩
theorem mx_comm : ∀ (a b : List Int), (a.zip b).map (fun q => max q.1 q.2) = mx b a
  | [], [] => rfl
  | [], _ :: _ => rfl
  | _ :: _, [] => rfl
  | x :: a, y :: b => by
    show max x y :: (a.zip b).map (fun q => max q.1 q.2) = max y x :: mx b a
    rw [mx_comm a b, Int.max_comm]
variable {ss : List Int}
theorem lt_up {l : Nat} {W : List (List Int)} {M x7 x8 x9 x10 x11 x5 : Option Val} {Q : Fl → Rho → Prop} (lenW : W.length = l) (hW : W ≠ []) (h5 : isOwn (some x5) = false)
    (fin : ∀ x12, Q .nx [R, S, F, M, some (.ow (lisD (upP W))), x5, none, x7, x8, x9, x10, x11, x12, none]) :
    wp (forL (.nm 12) b4__law_tightened ((List.range' 1 (l - 1)).map fun (k : Nat) => PyData.int (k : Int))) [R, S, F, M, some (.ow (lisD W)), x5, none, x7, x8, x9, x10, x11, none, none] Q := by
  obtain ⟨w0, ws0, rfl⟩ := List.exists_cons_of_ne_nil hW
  refine wp_up2 (fun j ρ => ∃ A p rest x12, A.length + 1 = j ∧ j + rest.length = l ∧ A ++ p :: upGo p rest = upP (w0 :: ws0) ∧
    ρ = [R, S, F, M, some (.ow (lisD A ++ lisI p :: lisD rest)), x5, none, x7, x8, x9, x10, x11, x12, none]) (fun j ρ hj1 hj2 h => ?_) (fun ρ h => ?_) ⟨[], w0, ws0, none, rfl, by rw [← lenW, List.length_cons]; omega, rfl, rfl⟩
  · obtain ⟨A, p, rest, x12, e1, e2, e3, rfl⟩ := h
    obtain ⟨w, rest, rfl⟩ : ∃ w ws, rest = w :: ws := List.exists_cons_of_ne_nil (by
      intro e
      rw [e] at e2
      simp only [List.length_nil] at e2
      omega)
    rw [lis_cons]
    have eA : (lisD A).length = A.length := lis_len A
    unfold b4__law_tightened
    simp_arith [getAt_mid (show (j : Int) - 1 = ((lisD A).length : Int) by omega), getAt_mid1 (show (j : Int) = ((lisD A).length : Int) + 1 by omega), h5]
    refine wp_compZ (ea := PyData.int) (eb := PyData.int) (fun a b => [.int (max a b)]) (fun a b _ => ?_) ?_
    · simp_arith
    · simp_arith [flat1i, mx_comm, putAt_mid1 (show (j : Int) = ((lisD A).length : Int) + 1 by omega)]
      refine ⟨A ++ [p], mx p w, rest, some (.fz (.int (j : Int))), by simp only [List.length_append, List.length_cons, List.length_nil]; omega, by simp only [List.length_cons] at e2; omega, by rw [List.append_assoc]; exact e3, ?_⟩
      rw [lis_app, List.append_assoc]
      rfl
  · obtain ⟨A, p, rest, x12, e1, e2, e3, rfl⟩ := h
    have er : rest = [] := List.eq_nil_of_length_eq_zero (by
      rw [List.length_cons] at lenW
      omega)
    subst er
    have := fin x12
    rw [← e3, lis_app] at this
    exact this
theorem lt_down {U : List (List Int)} {M x5 x7 x8 x9 x10 x11 x12 : Option Val} {n : Nat} {Q : Fl → Rho → Prop} (lenU : U.length = n + 1) (lenS : ss.length = n + 1) (h5 : isOwn (some x5) = false)
    (fin : ∀ x12 x13, Q .nx [R, some (.fz (tupI ss)), F, M, some (.ow (lisD (dnP ss U))), x5, none, x7, x8, x9, x10, x11, x12, x13]) :
    wp (forL (.nm 12) b5__law_tightened ((List.range n).reverse.map fun (k : Nat) => PyData.int (k : Int))) [R, some (.fz (tupI ss)), F, M, some (.ow (lisD U)), x5, none, x7, x8, x9, x10, x11, x12, none] Q := by
  refine wp_down (fun j ρ => ∃ A' B SA SB v vs x12 x13, A'.length = j ∧ SA.length = j ∧ A' ++ B = U ∧ SA ++ SB = ss ∧ B ≠ [] ∧ SB ≠ [] ∧ dnP SB B = v :: vs ∧
    ρ = [R, some (.fz (tupI ss)), F, M, some (.ow (lisD A' ++ lisI v :: lisD vs)), x5, none, x7, x8, x9, x10, x11, x12, x13]) (fun j ρ hj h => ?_) (fun ρ h => ?_) ?_
  · obtain ⟨A1, B, SA, SB, v, vs, x12, x13, l1, l2, e4, e5, hB, hSB, e6, rfl⟩ := h
    obtain ⟨A', w, rfl, l3⟩ := snoc_of l1
    obtain ⟨SA', s, rfl, l4⟩ := snoc_of l2
    obtain ⟨w', B', rfl⟩ := List.exists_cons_of_ne_nil hB
    obtain ⟨s', SB', rfl⟩ := List.exists_cons_of_ne_nil hSB
    have lA : (lisD A').length = j := by rw [lis_len]; exact l3
    have lS : (intsD SA').length = j := by rw [List.length_map]; exact l4
    have eS : intsD ss = intsD SA' ++ PyData.int s :: PyData.int s' :: intsD SB' := by
      rw [← e5, List.append_assoc, ints_app]; rfl
    have eW : lisD (A' ++ [w]) ++ lisI v :: lisD vs = lisD A' ++ lisI w :: lisI v :: lisD vs := by
      rw [lis_app, List.append_assoc]; rfl
    rw [eW]
    unfold b5__law_tightened
    simp_arith [eS, getAt_mid (show (j : Int) = ((intsD SA').length : Int) by omega), getAt_mid1 (show (j : Int) + 1 = ((intsD SA').length : Int) + 1 by omega), getAt_mid (show (j : Int) = ((lisD A').length : Int) by omega), getAt_mid1 (show (j : Int) + 1 = ((lisD A').length : Int) + 1 by omega), h5]
    refine wp_compZ (ea := PyData.int) (eb := PyData.int) (fun a b => [.int (max a (b - (s' - s)))]) (fun a b _ => ?_) ?_
    · simp_arith
    · simp_arith [flat1i, putAt_mid (show (j : Int) = ((lisD A').length : Int) by omega)]
      exact ⟨A', w :: w' :: B', SA', s :: s' :: SB', mxg (s' - s) w v, v :: vs, some (.fz (.int (j : Int))), some (.fz (.int (s' - s))), l3, l4, by rw [← e4, List.append_assoc]; rfl, by rw [← e5, List.append_assoc]; rfl, by simp, by simp, dnP_cons _ _ _ _ _ _ e6, rfl⟩
  · obtain ⟨A1, B, SA, SB, v, vs, x12, x13, l1, l2, e4, e5, hB, hSB, e6, rfl⟩ := h
    have : A1 = [] := List.eq_nil_of_length_eq_zero l1
    subst this
    have : SA = [] := List.eq_nil_of_length_eq_zero l2
    subst this
    have := fin x12 x13
    rw [← e4, List.nil_append, ← e5, List.nil_append, e6] at this
    rw [← e5, List.nil_append]
    exact this
  · obtain ⟨A, w, rfl, lA⟩ := snoc_of lenU
    obtain ⟨SA, s, rfl, lS⟩ := snoc_of lenS
    exact ⟨A, [w], SA, [s], w, [], x12, none, lA, lS, rfl, rfl, by simp, by simp, dnP_one s w, by rw [lis_app]; rfl⟩
theorem lt_check {V : List (List Int)} {M x5 x7 x8 x9 x10 x11 x12 x13 : Option Val} {Q : Fl → Rho → Prop} (h5 : isOwn (some x5) = false) (h9 : isOwn (some x9) = false) (h11 : isOwn (some x11) = false)
    (yes : okP V ss = true → ∀ x5 x8 x9 x11, isOwn (some x9) = false → Q .nx [R, S, F, M, some (.fz (.list (lisD V))), x5, none, x7, x8, x9, x10, x11, x12, x13])
    (no : okP V ss = false → ∀ ρ, Q (.rt (.fz .none)) ρ) :
    wp (forL (.tup [(.nm 9), (.nm 8)]) b6__law_tightened (zipL (lisD V) (intsD ss))) [R, S, F, M, some (.fz (.list (lisD V))), x5, none, x7, x8, x9, x10, x11, x12, x13] Q := by
  refine wp_zip (ea := lisI) (eb := PyData.int) (fun xs ys ρ => okP V ss = okP xs ys ∧ ∃ x5 x8 x9 x11, isOwn (some x5) = false ∧ isOwn (some x9) = false ∧ isOwn (some x11) = false ∧ ρ = [R, S, F, M, some (.fz (.list (lisD V))), x5, none, x7, x8, x9, x10, x11, x12, x13]) (fun x xs y ys ρ h => ?_) (fun xs ys ρ hn h => ?_) ⟨rfl, _, _, _, _, h5, h9, h11, rfl⟩
  · obtain ⟨hk, x5, x8, x9, x11, h5, h9, h11, rfl⟩ := h
    unfold b6__law_tightened
    simp_arith [h5, h11]
    refine wp_compE (ea := PyData.int) (fun a k => if min (k : Int) y < a then [.int 1] else []) (fun a k _ => ?_) ?_
    · simp_arith
      by_cases c : min (k : Int) y < a
      · simp only [if_pos c]
      · simp only [if_neg c]
    · simp_arith [ne_nil, flat_if]
      cases hw : okW x y with
      | false =>
        have hz : (x.zipIdx.any fun a => decide (min (a.2 : Int) y < a.1)) = true := by
          have : (!(x.zipIdx.any fun a => decide (min (a.2 : Int) y < a.1))) = false := hw
          simpa using this
        rw [hz]
        simp_arith
        exact no (by
          rw [hk]
          show (okW x y && okP xs ys) = false
          rw [hw]; rfl) _
      | true =>
        have hz : (x.zipIdx.any fun a => decide (min (a.2 : Int) y < a.1)) = false := by
          have : (!(x.zipIdx.any fun a => decide (min (a.2 : Int) y < a.1))) = true := hw
          simpa using this
        rw [hz]
        simp_arith
        refine ⟨?_, _, _, _, _, h5, rfl, h11, rfl⟩
        rw [hk]
        show (okW x y && okP xs ys) = okP xs ys
        rw [hw]; rfl
  · obtain ⟨hk, x5, x8, x9, x11, h5, h9, h11, rfl⟩ := h
    refine yes ?_ _ _ _ _ h9
    rw [hk]
    rcases hn with e | e <;> subst e
    · rfl
    · cases xs <;> rfl
end
end FW
namespace FW
open PySem FK
theorem lawT_ok (rows : List (List Int)) (ss : List Int) (m : Nat) (h0 : rows ≠ []) (hl : rows.length = ss.length) (h1 : rows.length ≤ 1000) (hm : m ≤ 1000) (h2 : Len m rows) :
    wpF (e__law_tightened.f [.fz (rowsD rows), .fz (tupI ss)]) fun v _ => v = noneOr (tightP rows ss) := by
  rw [← lawT_eq h0 hl h2]
  obtain ⟨r, rs, rfl⟩ := List.exists_cons_of_ne_nil h0
  have er := h2 r (List.mem_cons_self ..)
  have hss : ss ≠ [] := by
    intro e
    rw [e] at hl
    cases hl
  obtain ⟨n, hn⟩ : ∃ n, ss.length = n + 1 := ⟨ss.length - 1, by
    have := List.length_pos_iff.mpr hss
    omega⟩
  have hn3 : n ≤ 1000000 := by omega
  have hn4 : n + 1 ≤ 1000000 := by omega
  have el : (rs.length + 1 : Nat) = n + 1 := by rw [← hn, ← hl]; rfl
  have em0 : ((m + 1 : Nat) : Int) - 1 = (m : Int) := by omega
  have em : (((n + 1 : Nat) : Int) - 2) = (n : Int) - 1 := by omega
  have sz : 0 + 1 + (n + 1) ≤ 16777216 := by omega
  show wpF (fnOf 14 m__law_tightened _) _
  rw [wpF_fnOf]
  unfold m__law_tightened
  simp_arith [er, em0, hn, el, sz]
  refine wp_compZ (ea := PyData.int) (eb := PyData.int) (xs := 0 :: ss) (ys := ss) (fun a b => if b < a then [.int 1] else []) (fun a b _ => ?_) ?_
  · simp_arith
    by_cases c : b < a
    · simp only [if_pos c]
    · simp only [if_neg c]
  · simp_arith [ne_nil, flat_if]
    cases hd : downB ss with
    | true =>
      have hd' : (((0 : Int) :: ss).zip ss).any (fun q => decide (q.2 < q.1)) = true := hd
      rw [hd']
      simp_arith
      show Val.fz .none = noneOr (lawT (r :: rs) ss)
      unfold lawT
      rw [hd]
      rfl
    | false =>
      have hd' : (((0 : Int) :: ss).zip ss).any (fun q => decide (q.2 < q.1)) = false := hd
      rw [hd']
      simp_arith
      refine wp_zip (ea := tupI) (eb := PyData.int) (xs := r :: rs) (ys := ss) (fun xs ys ρ => ∃ A x5 x7 x8 x9 x10 x11, isOwn (some x5) = false ∧ isOwn (some x9) = false ∧ isOwn (some x11) = false ∧ Len m xs ∧ xs.length = ys.length ∧ A.length + ys.length = ss.length ∧
        A ++ stepsP xs ys = stepsP (r :: rs) ss ∧ ρ = [some (.fz (rowsD (r :: rs))), some (.fz (tupI ss)), some (.fz (.int ((n + 1 : Nat) : Int))), some (.fz (.int (m : Int))), some (.ow (lisD A)), x5, none, x7, x8, x9, x10, x11, none, none]) (fun x xs y ys ρ h => ?_) (fun xs ys ρ hz h => ?_) ⟨[], none, none, none, none, none, none, rfl, rfl, rfl, h2, hl, by simp, rfl, rfl⟩
      · obtain ⟨A, x5, x7, x8, x9, x10, x11, h5, h9, h11, hL, hxy, hA, hst, rfl⟩ := h
        simp_arith
        refine lt_row (hL x (List.mem_cons_self ..)) hm (by rw [lis_len]; omega) (fun x5 x10 x11 h5 h11 => ?_) h5 h11
        refine ⟨A ++ [stepP x y], x5, _, _, _, x10, x11, h5, rfl, h11, fun w hw => hL w (List.mem_cons_of_mem _ hw), Nat.succ.inj hxy, ?_, ?_, by rw [lis_app]; rfl⟩
        · simp only [List.length_append, List.length_cons, List.length_nil] at hA ⊢; omega
        · rw [List.append_assoc]; exact hst
      · obtain ⟨A, x5, x7, x8, x9, x10, x11, h5, h9, h11, hL, hxy, hA, hst, rfl⟩ := h
        have hx : xs = [] ∧ ys = [] := by
          rcases hz with e | e
          · subst e
            exact ⟨rfl, List.eq_nil_of_length_eq_zero hxy.symm⟩
          · subst e
            exact ⟨List.eq_nil_of_length_eq_zero hxy, rfl⟩
        have hst' : stepsP (r :: rs) ss = A := by
          rw [← hst, hx.1]
          exact List.append_nil A
        have lenA : A.length = ss.length := by
          rw [hx.2] at hA
          exact hA
        have hA0 : A ≠ [] := by
          intro e
          rw [e] at lenA
          exact hss (List.eq_nil_of_length_eq_zero lenA.symm)
        have e7 : wordsP (r :: rs) ss = dnP ss (upP A) := by
          show dnP ss (upP (stepsP (r :: rs) ss)) = _
          rw [hst']
        have lenU : (upP A).length = n + 1 := by rw [upP_len, lenA, hn]
        have et : lawT (r :: rs) ss = if okP (wordsP (r :: rs) ss) ss = true then some (wordsP (r :: rs) ss) else none := by
          unfold lawT
          rw [hd]
          rfl
        simp_arith [rng_from1 hn4]
        refine lt_up (lenA.trans hn) hA0 h5 fun x12 => ?_
        simp_arith [em, rngOf3 hn3]
        refine lt_down lenU hn h5 fun x12 x13 => ?_
        rw [← e7]
        simp_arith
        refine lt_check h5 h9 h11 (fun hk x5 x8 x9 x11 h9 => ?_) fun hk ρ => ?_
        · simp_arith [h9, lisD]
          refine wp_compP (enc := lisI) (g := fun w => [tupI w]) (fun w _ => ?_) ?_
          · simp_arith
          · simp_arith [flat1]
            rw [et, hk]
            rfl
        · show Val.fz .none = noneOr (lawT (r :: rs) ss)
          rw [et, hk]
          rfl
end FW

/-! FwF: what the laws say of tightened; knowledge's sizes, nested. -/
namespace FW
open PySem FK
def dOr (o : Option (List (List Int))) : FK.D := match o with
  | none => .none
  | some W => rowsD W
theorem noneOr_eq (o : Option (List (List Int))) : noneOr o = .fz (dOr o) := by cases o <;> rfl
def Small (xs : List Int) : Prop := ∀ x ∈ xs, -99999999999 ≤ x ∧ x ≤ 99999999999
theorem rp_ints {xs : List Int} {n : Nat} (h : Small xs) (hn : xs.length ≤ n) : RP (n * 41) 1 (tupI xs) := by
  refine rp_tuple (w := 40) (k := 0) (fun d hd => ?_) (by rw [List.length_map]; exact hn)
  obtain ⟨x, hx, rfl⟩ := List.mem_map.mp hd
  exact rp_int (h x hx).1 (h x hx).2
theorem rp_rows {rs : List (List Int)} {n f : Nat} (h : ∀ r ∈ rs, Small r ∧ r.length ≤ n) (hf : rs.length ≤ f) : RP (f * (n * 41 + 1)) 2 (rowsD rs) := by
  refine rp_tuple (w := n * 41) (k := 1) (fun d hd => ?_) (by rw [List.length_map]; exact hf)
  obtain ⟨r, hr, rfl⟩ := List.mem_map.mp hd
  exact rp_ints (h r hr).1 (h r hr).2
theorem rp_pair {a b : FK.D} {w k : Nat} (ha : RP w k a) (hb : RP w k b) : RP (2 * (w + 1)) (k + 1) (.list [a, b]) := by
  refine rp_list (fun d hd => ?_) (by simp)
  rcases List.mem_cons.mp hd with rfl | hd
  · exact ha
  · rw [List.mem_singleton.mp hd]; exact hb
section
variable {m : Nat}
theorem rp_due {rows : List (List Int)} {ss : List Int} (hl : rows.length = ss.length) (h1 : rows.length ≤ 100) (hm : m ≤ 100) (h2 : Len m rows) : RP 420000 2 (dOr (tightP rows ss)) := by
  cases h : tightP rows ss with
  | none => exact rp_none.mono (by omega) (by omega)
  | some W =>
    have t := tight_of hl h2 h
    refine (rp_rows (n := 101) (f := 100) (fun r hr => ⟨fun x hx => ?_, ?_⟩) ?_).mono (by omega) (by omega)
    · have a := t.top r hr x hx
      have b := nn_mem (t.all r hr).2.2 hx
      omega
    · have := (t.all r hr).1; omega
    · rw [t.len, ← hl]; exact h1
theorem is_told_ok {rows : List (List Int)} {ss : List Int} (h0 : rows ≠ []) (hl : rows.length = ss.length) (h1 : rows.length ≤ 100) (hm : m ≤ 100) (h2 : Len m rows) (hr : ∀ r ∈ rows, Small r) (hs : Small ss) :
    wpF (e__law_is_told.f [.fz (rowsD rows), .fz (tupI ss)]) fun v _ => v = .fz (.bool true) := by
  have hrow : ∀ r ∈ rows, r ≠ [] ∧ r.length ≤ 1000 := fun r hr => by
    have := h2 r hr
    refine ⟨fun e => ?_, by omega⟩
    rw [e] at this
    cases this
  have rpd := rp_due hl h1 hm h2
  have rp2 : RP 900000 3 (.list [rowsD rows, tupI ss]) := by
    refine (rp_pair (w := 420000) (k := 2) ?_ ?_).mono (by omega) (by omega)
    · exact (rp_rows (n := 101) (f := 100) (fun r h => ⟨hr r h, by have := h2 r h; omega⟩) h1).mono (by omega) (by omega)
    · exact (rp_ints (n := 100) hs (by omega)).mono (by omega) (by omega)
  have rpr := rp2.repr (by omega) (by omega)
  have two : rngOf [.int 2] = _ := rng_one (n := 2) (by omega)
  show wpF (fnOf 5 m__law_is_told _) _
  rw [wpF_fnOf]
  unfold m__law_is_told
  simp_arith
  refine ⟨rfl, (lawT_ok rows ss m h0 hl (by omega) (by omega) h2).mono ?_⟩
  intro v o hv
  rw [hv, noneOr_eq]
  simp_arith [oRepr, rpr, two]
  refine wp_up (fun j ρ => ∃ x4, ρ = [some (.fz (rowsD rows)), some (.fz (tupI ss)), some (.fz (dOr (tightP rows ss))), some (.fz (.str (PyData.list [rowsD rows, tupI ss]).shown)), x4]) (fun j ρ hj h => ?_) (fun ρ h => ?_) ⟨_, rfl⟩
  · obtain ⟨x4, rfl⟩ := h
    unfold b1__law_is_told
    simp_arith
    refine ⟨rfl, (tightened_ok rows ss h0 hl (by omega) hrow).mono ?_⟩
    intro v o hv
    rw [hv, noneOr_eq]
    simp_arith
    refine ⟨rfl, (alike_ok rpd (by omega) (by omega)).mono ?_⟩
    rintro _ _ rfl
    simp_arith [oRepr, rpr, ne_str]
    exact ⟨_, rfl⟩
  · obtain ⟨x4, rfl⟩ := h
    simp_arith
    cases h : tightP rows ss with
    | none =>
      simp_arith [dOr]
    | some W =>
      have t := tight_of hl h2 h
      rw [h] at rpd
      simp_arith [dOr]
      refine ⟨rfl, (tightened_ok W ss t.nil t.len (by rw [t.len, ← hl]; omega) fun r hr => ?_).mono ?_⟩
      · have := (t.all r hr).1
        refine ⟨fun e => ?_, by omega⟩
        rw [e] at this
        cases this
      · intro v o hv
        rw [hv, t.again, noneOr_eq]
        simp_arith
        refine ⟨rfl, (alike_ok rpd (by omega) (by omega)).mono ?_⟩
        rintro _ _ rfl
        simp_arith
end
end FW

/-! FwG: sizes and nesting of a knowledge. -/
namespace FW
open PySem FK
/-! _law_is_nested : 0 _law_known, 1 _law_one_here, 2 _law_other, 3 _law_at -/
def b1__law_is_nested : MS := (sIf (asT (mBin oNe (.ex (mComp [3] (itRng [(.ex (mC (.int 1))), (.ex (mFn oLen [(.nm 1)]))]) (.nm 3) (mAnd (asT (mBin oGt (.ex (mBin oIx (.nm 1) (.nm 3))) (.ex (mBin oIx (.nm 1) (.ex (mBin oSub (.nm 3) (.ex (mC (.int 1))))))))) (asT (mBin oEq (.ex (mBin oIx (.nm 2) (.nm 3))) (.ex (mBin oIx (.nm 2) (.ex (mBin oSub (.nm 3) (.ex (mC (.int 1)))))))))) (mC (.int 1)))) (.ex (mLst []))))
  (sRet (mC (.bool false)))
  sNx)
def m__law_is_nested : MS := (sSeq (sFor (itZip (mBin oIx (.nm 0) (.ex (mC (.int 1)))) (mSl (.ex (mBin oIx (.nm 0) (.ex (mC (.int 1))))) (some (mC (.int 1))) none)) (.tup [(.nm 1), (.nm 2)]) b1__law_is_nested)
  (sRet (mC (.bool true))))
def e__law_is_nested : FnE := ⟨fnOf 4 m__law_is_nested, 1, false⟩
theorem getAt_ints {w : List Int} {i : Int} {k : Nat} (e : i = (k : Int)) (h : k < w.length) : getAt i (intsD w) = some (.int (w.getD k 0)) := by
  refine getAt_int e ?_
  rw [List.getElem?_map, List.getElem?_eq_getElem h, List.getD_eq_getElem?_getD, List.getElem?_eq_getElem h]
  rfl
theorem drop1 {α : Type} (f : α → FK.D) (xs : List α) : cutD (xs.map f) (some 1) none = xs.tail.map f := by
  rw [cut_tail]
  cases xs <;> rfl
def lastsP (W : List (List Int)) : List Int := W.map fun w => w.getLastD 0
theorem known_sizes_ok {o : FK.D} {W : List (List Int)} (h : ∀ w ∈ W, w ≠ []) : wpF (e_known_sizes.f [.fz (.tuple [o, rowsD W])]) fun v _ => v = .fz (tupI (lastsP W)) := by
  show wpF (fnOf 2 m_known_sizes _) _
  rw [wpF_fnOf]
  unfold m_known_sizes
  simp_arith
  refine wp_compP (enc := tupI) (g := fun w => [.int (w.getLastD 0)]) (fun w hw => ?_) ?_
  · have hg : getAt (-1) (intsD w) = some (.int (w.getLastD 0)) := by
      have hw' := h w hw
      rw [getAt_last' (by simpa using hw'), List.getLast_map, List.getLastD_eq_getLast?, List.getLast?_eq_getLast hw']
      rfl
    simp_arith [hg]
  · simp_arith [flat1i]
    rfl
theorem law_known_sizes_ok {o : FK.D} {W : List (List Int)} (h : ∀ w ∈ W, w ≠ []) : wpF (e__law_known_sizes.f [.fz (.tuple [o, rowsD W])]) fun v _ => v = .fz (tupI (lastsP W)) := known_sizes_ok h
theorem goes_up_ok {w : List Int} {p : Nat} (h : p + 1 < w.length) : wpF (e_goes_up.f [.fz (tupI w), .fz (.int (p : Int))]) fun v _ => v = .fz (.bool (decide (w.getD p 0 < w.getD (p + 1) 0))) := by
  show wpF (fnOf 2 m_goes_up _) _
  rw [wpF_fnOf]
  unfold m_goes_up
  simp_arith [getAt_ints (w := w) (show (p : Int) + 1 = ((p + 1 : Nat) : Int) by omega) h, getAt_ints (w := w) (show (p : Int) = ((p : Nat) : Int) from rfl) (by omega)]
def okQ (p : Nat) (q : List Int × List Int) : Bool := !(decide (q.1.getD p 0 < q.1.getD (p + 1) 0) && !decide (q.2.getD p 0 < q.2.getD (p + 1) 0))
def nestB (m : Nat) (W : List (List Int)) : Bool := (List.range m).all fun p => (W.zip W.tail).all (okQ p)
section
variable {m : Nat}
theorem is_nested_ok {os : List FK.D} {W : List (List Int)} (ho : os.length = m) (hm : m ≤ 1000) (hL : Len m W) : wpF (e_is_nested.f [.fz (.tuple [.tuple os, rowsD W])]) fun v _ => v = .fz (.bool (nestB m W)) := by
  have hm3 : m ≤ 1000000 := by omega
  show wpF (fnOf 6 m_is_nested _) _
  rw [wpF_fnOf]
  unfold m_is_nested
  simp_arith [ho, rng_one hm3]
  refine wp_up (fun p ρ => (∀ p' < p, (W.zip W.tail).all (okQ p') = true) ∧ ∃ x3 x4 x5, ρ = [some (.fz (.tuple [.tuple os, rowsD W])), some (.fz (.tuple os)), some (.fz (rowsD W)), x3, x4, x5]) (fun p ρ hp h => ?_) (fun ρ h => ?_) ⟨fun p' h => by omega, _, _, _, rfl⟩
  · obtain ⟨hb, x3, x4, x5, rfl⟩ := h
    unfold b2_is_nested
    simp_arith [drop1]
    refine wp_zip (ea := tupI) (eb := tupI) (fun xs ys ρ => (W.zip W.tail).all (okQ p) = (xs.zip ys).all (okQ p) ∧ (∀ x ∈ xs, x ∈ W) ∧ (∀ y ∈ ys, y ∈ W) ∧ ∃ x4 x5, ρ = [some (.fz (.tuple [.tuple os, rowsD W])), some (.fz (.tuple os)), some (.fz (rowsD W)), some (.fz (.int (p : Int))), x4, x5]) (fun x xs y ys ρ h => ?_) (fun xs ys ρ hz h => ?_) ⟨rfl, fun _ h => h, fun _ h => List.mem_of_mem_tail h, _, _, rfl⟩
    · obtain ⟨he, hx, hy, x4, x5, rfl⟩ := h
      have lx := hL x (hx x (List.mem_cons_self ..))
      have ly := hL y (hy y (List.mem_cons_self ..))
      unfold b1_is_nested
      simp_arith
      refine ⟨rfl, (goes_up_ok (w := x) (p := p) (by omega)).mono ?_⟩
      rintro _ _ rfl
      simp_arith
      have ec : (((x :: xs).zip (y :: ys)).all (okQ p)) = (okQ p (x, y) && (xs.zip ys).all (okQ p)) := rfl
      by_cases c1 : x.getD p 0 < x.getD (p + 1) 0
      · rw [if_pos c1]
        refine ⟨rfl, (goes_up_ok (w := y) (p := p) (by omega)).mono ?_⟩
        rintro _ _ rfl
        simp_arith
        by_cases c2 : y.getD p 0 < y.getD (p + 1) 0
        · have eo : okQ p (x, y) = true := by
            show (!(decide (x.getD p 0 < x.getD (p + 1) 0) && !decide (y.getD p 0 < y.getD (p + 1) 0))) = true
            rw [decide_eq_true c1, decide_eq_true c2]
            rfl
          simp only [c2, decide_true, Bool.not_true, Bool.false_eq_true, if_false]
          exact ⟨by rw [he, ec, eo, Bool.true_and], fun z hz => hx z (List.mem_cons_of_mem _ hz), fun z hz => hy z (List.mem_cons_of_mem _ hz), _, _, rfl⟩
        · have eo : okQ p (x, y) = false := by
            show (!(decide (x.getD p 0 < x.getD (p + 1) 0) && !decide (y.getD p 0 < y.getD (p + 1) 0))) = false
            rw [decide_eq_true c1, decide_eq_false c2]
            rfl
          simp only [c2, decide_false, Bool.not_false, if_true]
          have : nestB m W = false := by
            cases q : nestB m W with
            | false => rfl
            | true =>
              have := List.all_eq_true.mp q p (List.mem_range.mpr hp)
              rw [he, ec, eo] at this
              cases this
          rw [this]
      · rw [if_neg c1]
        have eo : okQ p (x, y) = true := by
            show (!(decide (x.getD p 0 < x.getD (p + 1) 0) && !decide (y.getD p 0 < y.getD (p + 1) 0))) = true
            rw [decide_eq_false c1, Bool.false_and]
            rfl
        exact ⟨by rw [he, ec, eo, Bool.true_and], fun z hz => hx z (List.mem_cons_of_mem _ hz), fun z hz => hy z (List.mem_cons_of_mem _ hz), _, _, rfl⟩
    · obtain ⟨he, hx, hy, x4, x5, rfl⟩ := h
      refine ⟨fun p' hp' => ?_, _, _, _, rfl⟩
      by_cases e : p' = p
      · rw [e, he]
        rcases hz with e | e <;> rw [e]
        · rfl
        · cases xs <;> rfl
      · exact hb p' (by omega)
  · obtain ⟨hb, x3, x4, x5, rfl⟩ := h
    simp_arith
    have : nestB m W = true := List.all_eq_true.mpr fun p hp => hb p (List.mem_range.mp hp)
    rw [this]
/-- the law's own -/
def badL (q : List Int × List Int) (a : Nat) : Bool := decide (q.1.getD (a - 1) 0 < q.1.getD a 0) && decide (q.2.getD a 0 = q.2.getD (a - 1) 0)
def okL (m : Nat) (q : List Int × List Int) : Bool := !((List.range' 1 m).any (badL q))
def nestL (m : Nat) (W : List (List Int)) : Bool := (W.zip W.tail).all (okL m)
theorem flat_ifB {α : Type} {d : FK.D} (p : α → Bool) (L : List α) : (L.flatMap fun q => if p q = true then [d] else []).isEmpty = !(L.any p) := by
  rw [flat_if]
  congr 2
  funext q
  cases p q <;> rfl
theorem law_is_nested_ok {o : FK.D} {W : List (List Int)} (hm : m ≤ 1000) (hL : Len m W) : wpF (e__law_is_nested.f [.fz (.tuple [o, rowsD W])]) fun v _ => v = .fz (.bool (nestL m W)) := by
  have hm3 : m + 1 ≤ 1000000 := by omega
  show wpF (fnOf 4 m__law_is_nested _) _
  rw [wpF_fnOf]
  unfold m__law_is_nested
  simp_arith [drop1]
  rw [drop1]
  refine wp_zip (ea := tupI) (eb := tupI) (fun xs ys ρ => nestL m W = (xs.zip ys).all (okL m) ∧ (∀ x ∈ xs, x ∈ W) ∧ (∀ y ∈ ys, y ∈ W) ∧ ∃ x1 x2 x3, isOwn (some x3) = false ∧ ρ = [some (.fz (.tuple [o, rowsD W])), x1, x2, x3]) (fun x xs y ys ρ h => ?_) (fun xs ys ρ hz h => ?_) ⟨rfl, fun _ h => h, fun _ h => List.mem_of_mem_tail h, none, none, none, rfl, rfl⟩
  · obtain ⟨he, hx, hy, x1, x2, x3, h3, rfl⟩ := h
    have lx := hL x (hx x (List.mem_cons_self ..))
    have ly := hL y (hy y (List.mem_cons_self ..))
    unfold b1__law_is_nested
    simp_arith [lx, rng_from1 hm3, h3, Nat.add_sub_cancel]
    refine wp_compP (enc := fun (k : Nat) => PyData.int (k : Int)) (g := fun k => if badL (x, y) k = true then [.int 1] else []) (fun k hk => ?_) ?_
    · have hk' := List.mem_range'_1.mp hk
      have e1 := getAt_ints (w := x) (i := (k : Int) - 1) (k := k - 1) (by omega) (by omega)
      have e2 := getAt_ints (w := x) (i := (k : Int)) (k := k) rfl (by omega)
      have e3 := getAt_ints (w := y) (i := (k : Int) - 1) (k := k - 1) (by omega) (by omega)
      have e4 := getAt_ints (w := y) (i := (k : Int)) (k := k) rfl (by omega)
      have eb : badL (x, y) k = (decide (x.getD (k - 1) 0 < x.getD k 0) && decide (y.getD k 0 = y.getD (k - 1) 0)) := rfl
      simp_arith [e1, e2, e3, e4]
      rw [eb]
      by_cases c1 : x.getD (k - 1) 0 < x.getD k 0
      · by_cases c2 : y.getD k 0 = y.getD (k - 1) 0
        · rw [if_pos c1, if_pos c2, decide_eq_true c1, decide_eq_true c2]
          rfl
        · rw [if_pos c1, if_neg c2, decide_eq_true c1, decide_eq_false c2]
          rfl
      · rw [if_neg c1, decide_eq_false c1]
        rfl
    · simp_arith [ne_nil, flat_ifB]
      cases hw : okL m (x, y) with
      | false =>
        have hz : (List.range' 1 m).any (badL (x, y)) = true := by
          have : (!((List.range' 1 m).any (badL (x, y)))) = false := hw
          simpa using this
        rw [hz]
        simp_arith
        rw [he]
        show Val.fz (.bool false) = Val.fz (.bool (okL m (x, y) && (xs.zip ys).all (okL m)))
        rw [hw]; rfl
      | true =>
        have hz : (List.range' 1 m).any (badL (x, y)) = false := by
          have : (!((List.range' 1 m).any (badL (x, y)))) = true := hw
          simpa using this
        rw [hz]
        simp_arith
        refine ⟨?_, fun z hz => hx z (List.mem_cons_of_mem _ hz), fun z hz => hy z (List.mem_cons_of_mem _ hz), _, _, _, h3, rfl⟩
        rw [he]
        show (okL m (x, y) && (xs.zip ys).all (okL m)) = _
        rw [hw]; rfl
  · obtain ⟨he, hx, hy, x1, x2, x3, h3, rfl⟩ := h
    simp_arith
    rw [he]
    rcases hz with e | e <;> rw [e]
    · rfl
    · cases xs <;> rfl
theorem mono_get : ∀ {w : List Int} {p : Nat}, mono w → p + 1 < w.length → w.getD p 0 ≤ w.getD (p + 1) 0
  | x :: y :: w, 0, h, _ => h.1
  | x :: y :: w, p + 1, h, hp => by
    have := mono_get (w := y :: w) (p := p) h.2 (by simpa using hp)
    exact this
  | [x], p, _, hp => by simp at hp
  | [], p, _, hp => by simp at hp
theorem nest_eq {W : List (List Int)} (hW : ∀ w ∈ W, w.length = m + 1 ∧ mono w) : nestB m W = nestL m W := by
  rw [Bool.eq_iff_iff]
  unfold nestB nestL
  simp only [List.all_eq_true, List.mem_range]
  have key : ∀ q ∈ W.zip W.tail, ∀ p, p < m → (okQ p q = true ↔ badL q (p + 1) = false) := by
    intro q hq p hp
    have h2 := hW q.2 (List.mem_of_mem_tail (List.of_mem_zip hq).2)
    have hm := mono_get (p := p) h2.2 (by omega)
    show (!(decide (q.1.getD p 0 < q.1.getD (p + 1) 0) && !decide (q.2.getD p 0 < q.2.getD (p + 1) 0))) = true ↔ (decide (q.1.getD p 0 < q.1.getD (p + 1) 0) && decide (q.2.getD (p + 1) 0 = q.2.getD p 0)) = false
    by_cases c1 : q.1.getD p 0 < q.1.getD (p + 1) 0
    · by_cases c2 : q.2.getD p 0 < q.2.getD (p + 1) 0
      · rw [decide_eq_true c1, decide_eq_true c2, decide_eq_false (by omega)]; simp
      · rw [decide_eq_true c1, decide_eq_false c2, decide_eq_true (by omega)]; simp
    · rw [decide_eq_false c1]; simp
  constructor
  · intro h q hq
    show (!((List.range' 1 m).any (badL q))) = true
    rw [Bool.not_eq_true', List.any_eq_false]
    intro a ha
    have ha' := List.mem_range'_1.mp ha
    have := (key q hq (a - 1) (by omega)).mp (h (a - 1) (by omega) q hq)
    rw [show a - 1 + 1 = a by omega] at this
    simp [this]
  · intro h p hp q hq
    refine (key q hq p hp).mpr ?_
    have h1 : (!((List.range' 1 m).any (badL q))) = true := h q hq
    rw [Bool.not_eq_true', List.any_eq_false] at h1
    have := h1 (p + 1) (List.mem_range'_1.mpr ⟨by omega, by omega⟩)
    simpa using this
end
end FW

/-! FwH: rows of zeros can be tightened; draws. -/
namespace FW
open PySem FK
def ubF (s : Int) (p : Nat) : Nat → List Int
  | 0 => []
  | n + 1 => min (p : Int) s :: ubF s (p + 1) n
section
variable {s s' : Int}
theorem ub_len : ∀ (n p : Nat), (ubF s p n).length = n
  | 0, _ => rfl
  | n + 1, p => by
    show (ubF s (p + 1) n).length + 1 = n + 1
    rw [ub_len n]
theorem ub_mono : ∀ (n p : Nat), mono (ubF s p n)
  | 0, _ => trivial
  | 1, _ => trivial
  | n + 2, p => ⟨by push_cast; omega, ub_mono (n + 1) (p + 1)⟩
theorem ub_lip : ∀ (n p : Nat), lip (ubF s p n)
  | 0, _ => trivial
  | 1, _ => trivial
  | n + 2, p => ⟨by push_cast; omega, ub_lip (n + 1) (p + 1)⟩
theorem ub_nn (h : 0 ≤ s) : ∀ (n p : Nat), nn 0 (ubF s p n)
  | 0, _ => trivial
  | n + 1, p => ⟨by omega, ub_nn h n (p + 1)⟩
theorem ub_low : ∀ (n p : Nat) (c : Int), c ≤ (p : Int) → c + (n : Int) - 1 ≤ s → low c (ubF s p n)
  | 0, _, _, _, _ => trivial
  | n + 1, p, c, h, g => ⟨by push_cast at g; omega, ub_low n (p + 1) (c + 1) (by push_cast; omega) (by push_cast at g; omega)⟩
theorem ub_leg (h : s ≤ s') : ∀ (n p : Nat), leg (s' - s) (ubF s' p n) (ubF s p n)
  | 0, _ => trivial
  | n + 1, p => ⟨by omega, ub_leg h n (p + 1)⟩
theorem ub_le2 (h : s ≤ s') : ∀ (n p : Nat), le2 (ubF s p n) (ubF s' p n)
  | 0, _ => trivial
  | n + 1, p => ⟨by omega, ub_le2 h n (p + 1)⟩
theorem ub_zero (h : 0 ≤ s) : ∀ (n p : Nat), le2 (List.replicate n 0) (ubF s p n)
  | 0, _ => trivial
  | n + 1, p => ⟨by omega, ub_zero h n (p + 1)⟩
theorem leg_le2 : ∀ {g : Int} {a b c : List Int}, le2 a b → leg g b c → leg g a c
  | _, [], [], [], _, _ => trivial
  | g, x :: xs, y :: ys, z :: zs, h, k => ⟨by have := h.1; have := k.1; omega, leg_le2 h.2 k.2⟩
  | _, [], [], _ :: _, _, k => k.elim
  | _, [], _ :: _, _, h, _ => h.elim
  | _, _ :: _, [], _, h, _ => h.elim
  | _, _ :: _, _ :: _, [], _, k => k.elim
theorem ub_okW : ∀ {w : List Int} {p : Nat}, le2 w (ubF s p w.length) → (w.zipIdx p).any (fun q => decide (min (q.2 : Int) s < q.1)) = false
  | [], _, _ => rfl
  | x :: w, p, h => by
    rw [List.zipIdx_cons, List.any_cons, ub_okW (w := w) (p := p + 1) h.2, Bool.or_false]
    have := h.1
    exact decide_eq_false (by omega)
end
section
variable {m : Nat}
abbrev ub (m : Nat) (s : Int) : List Int := ubF s 0 (m + 1)
theorem okW_of {w : List Int} {s : Int} (h : le2 w (ub m s)) : okW w s = true := by
  have e : w.length = m + 1 := by rw [le2_len h, ub_len]
  unfold okW
  rw [ub_okW (p := 0) (by rw [e]; exact h)]
  rfl
/-- all under the bounds -/
def Und (m : Nat) : List Int → List (List Int) → Prop
  | [], [] => True
  | s :: ss, w :: ws => le2 w (ub m s) ∧ Und m ss ws
  | _, _ => False
theorem und_ok : ∀ {ss : List Int} {ws : List (List Int)}, Und m ss ws → okP ws ss = true
  | [], [], _ => rfl
  | s :: ss, w :: ws, h => by
    rw [okP_cons, okW_of h.1, und_ok h.2]; rfl
  | [], _ :: _, h => h.elim
  | _ :: _, [], h => h.elim
abbrev zerosP (m : Nat) : List Int := List.replicate (m + 1) 0
theorem und_up : ∀ {ss : List Int} {p : List Int} {s : Int}, 0 ≤ s → upF s ss → (∀ x ∈ ss, x ≤ (m : Int)) → le2 p (ub m s) → Und m ss (upGo p (stepsP (List.replicate ss.length (zerosP m)) ss))
  | [], _, _, _, _, _, _ => trivial
  | s' :: ss, p, s, h0, u, hm, hp => by
    have hs := hm s' (List.mem_cons_self ..)
    have h1 : le2 (stepP (zerosP m) s') (ub m s') := by
      refine stepP_least ⟨ub_mono _ _, ub_lip _ _, ub_nn (by have := u.1; omega) _ _, ub_low _ _ _ ?_ ?_⟩ (ub_zero (by have := u.1; omega) _ _)
      · rw [List.length_replicate]; push_cast; omega
      · rw [List.length_replicate]; push_cast; omega
    have h2 : le2 (mx p (stepP (zerosP m) s')) (ub m s') := mx_le (le2_trans hp (ub_le2 u.1 _ _)) h1
    exact ⟨h2, und_up (by have := u.1; omega) u.2 (fun x hx => hm x (List.mem_cons_of_mem _ hx)) h2⟩
theorem und_dn : ∀ {ss : List Int} {ws : List (List Int)} {s : Int} {w : List Int}, upF s ss → le2 w (ub m s) → Und m ss ws → ∃ v vs, dnP (s :: ss) (w :: ws) = v :: vs ∧ le2 v (ub m s) ∧ Und m ss vs
  | [], [], s, w, _, h, _ => ⟨w, [], dnP_one s w, h, trivial⟩
  | s' :: ss, w' :: ws, s, w, u, h, k => by
    obtain ⟨v, vs, h1, h2, h3⟩ := und_dn u.2 k.1 k.2
    exact ⟨_, _, dnP_cons s s' ss w w' ws h1, mxg_le h (leg_le2 h2 (ub_leg u.1 _ _)), h2, h3⟩
  | [], _ :: _, _, _, _, _, h => h.elim
  | _ :: _, [], _, _, _, _, h => h.elim
theorem last_le : ∀ {s : Int} {ss : List Int} {c : Int}, (∀ x ∈ s :: ss, x ≤ c) → (s :: ss).getLast (List.cons_ne_nil _ _) ≤ c := fun h => h _ (List.getLast_mem _)
theorem zeros_some {ss : List Int} (h0 : ss ≠ []) (u : upF 0 ss) (hm : ∀ x ∈ ss, x ≤ (m : Int)) : ∃ W, tightP (List.replicate ss.length (zerosP m)) ss = some W := by
  obtain ⟨s, ss, rfl⟩ := List.exists_cons_of_ne_nil h0
  have h1 : le2 (stepP (zerosP m) s) (ub m s) := by
    have hs := hm s (List.mem_cons_self ..)
    refine stepP_least ⟨ub_mono _ _, ub_lip _ _, ub_nn (by have := u.1; omega) _ _, ub_low _ _ _ ?_ ?_⟩ (ub_zero (by have := u.1; omega) _ _)
    · rw [List.length_replicate]; push_cast; omega
    · rw [List.length_replicate]; push_cast; omega
  have h2 := und_up (m := m) u.1 u.2 (fun x hx => hm x (List.mem_cons_of_mem _ hx)) h1
  obtain ⟨v, vs, e, h3, h4⟩ := und_dn u.2 h1 h2
  have ew : wordsP (List.replicate (s :: ss).length (zerosP m)) (s :: ss) = v :: vs := e
  have ok : okP (v :: vs) (s :: ss) = true := und_ok (m := m) ⟨h3, h4⟩
  refine ⟨v :: vs, ?_⟩
  show (if areP (s :: ss) (((zerosP m).length : Int) - 1) && okP (wordsP (List.replicate (s :: ss).length (zerosP m)) (s :: ss)) (s :: ss) then some (wordsP (List.replicate (s :: ss).length (zerosP m)) (s :: ss)) else none) = _
  have ha : areP (s :: ss) (((zerosP m).length : Int) - 1) = true := by
    rw [areP_cons, upB_iff.mpr u.2, List.length_replicate, Bool.and_true, decide_eq_false (by have := u.1; omega), Bool.false_or, decide_eq_false (by
      have := last_le hm
      push_cast
      omega)]
    rfl
  rw [ew, ok, ha]
  rfl
end
/-! ### draws -/
def In (lo hi : Int) (xs : List FK.D) : Prop := ∀ x ∈ xs, ∃ i, x = PyData.int i ∧ lo ≤ i ∧ i ≤ hi
theorem in_nil {lo hi : Int} : In lo hi [] := fun _ h => by cases h
theorem in_cons {lo hi i : Int} {xs : List FK.D} (h : lo ≤ i ∧ i ≤ hi) (t : In lo hi xs) : In lo hi (PyData.int i :: xs) := fun x hx => by
  rcases List.mem_cons.mp hx with rfl | hx
  · exact ⟨i, rfl, h⟩
  · exact t x hx
theorem tk {b : Bag} (hb : b.cells.length ≤ 1000) {n : Int} (h0 : 0 < n) (h1 : n < 1073741824) : wpF (e__law_take.f [.ow b.d, .fz (.int n)]) fun v o => ∃ k, ∃ b' : Bag, 0 ≤ k ∧ k < n ∧ v = .fz (.int k) ∧ o = some b'.d ∧ b'.cells.length ≤ 1000 :=
  (take_ok b n hb h0 h1).mono fun v o ⟨k, b', h1, h2, h3, h4, h5⟩ => ⟨k, b', h1, h2, h3, h4, by rw [h5]; exact hb⟩
theorem oneI {b : Bag} (hb : b.cells.length ≤ 1000) {xs : List FK.D} {lo hi : Int} (h : In lo hi xs) (h0 : xs ≠ []) (h1 : xs.length < 1073741824) : wpF (e__law_one.f [.ow b.d, .fz (.list xs)]) fun v o => ∃ i, ∃ b' : Bag, lo ≤ i ∧ i ≤ hi ∧ v = .fz (.int i) ∧ o = some b'.d ∧ b'.cells.length ≤ 1000 :=
  (one_ok b xs hb h0 h1).mono fun v o ⟨x, b', hx, h3, h4, h5⟩ => by
    obtain ⟨i, rfl, k⟩ := h x hx
    exact ⟨i, b', k.1, k.2, h3, h4, by rw [h5]; exact hb⟩
theorem mixed_ok {b : Bag} (hb : b.cells.length ≤ 1000) {xs : List FK.D} (h1 : xs.length ≤ 1000) : wpF (e__law_mixed.f [.ow b.d, .fz (.list xs)]) fun v o => ∃ ys, ∃ b' : Bag, v = .ow ys ∧ ys.length = xs.length ∧ o = some b'.d ∧ b'.cells.length ≤ 1000 := by
  show wpF (fnOf 4 m__law_mixed _) _
  rw [wpF_fnOf]
  unfold m__law_mixed
  simp_arith
  have hx : xs = xs.map id := (List.map_id xs).symm
  rw [show forL (Tgt.nm 3) b1__law_mixed xs = forL (Tgt.nm 3) b1__law_mixed (xs.map id) by rw [List.map_id]]
  refine wp_forL (enc := id) (fun done rest ρ => ∃ ys, ∃ b' : Bag, ∃ x3, ys.length = done.length ∧ done ++ rest = xs ∧ b'.cells.length ≤ 1000 ∧ ρ = [some (.ow b'.d), some (.fz (.list xs)), some (.ow ys), x3]) (fun done a rest ρ h => ?_) (fun done ρ h => ?_) xs [] _ ⟨[], b, none, rfl, rfl, hb, rfl⟩
  · obtain ⟨ys, b', x3, e1, e2, hb', rfl⟩ := h
    have lx : done.length + (a :: rest).length = xs.length := by rw [← e2, List.length_append]
    rw [List.length_cons] at lx
    have ly : ys.length < 16777216 := by omega
    unfold b1__law_mixed
    simp_arith
    refine ⟨rfl, (tk hb' (n := (ys.length : Int) + 1) (by omega) (by omega)).mono ?_⟩
    rintro _ _ ⟨k, b2, k0, k1, rfl, rfl, hb2⟩
    have k2 : k ≤ 1000000 := by omega
    simp_arith [ly, k0, k2]
    refine ⟨_, b2, _, ?_, ?_, hb2, rfl⟩
    · simp only [List.length_append, List.length_take, List.length_cons, List.length_drop, List.length_nil]
      omega
    · rw [List.append_assoc]; exact e2
  · obtain ⟨ys, b', x3, e1, e2, hb', rfl⟩ := h
    simp_arith
    refine ⟨ys, b', rfl, ?_, rfl, hb'⟩
    rw [e1, ← e2, List.append_nil]
end FW

/-! FwI: the defs that the laws share: rooms, states, moves. -/
namespace FW
open PySem FK
/-! _law_flat : 0 _law_rows, 1 _law_found, 2 _law_row -/
def b1__law_flat : MS := (sExt 1 (mV 2))
def m__law_flat : MS := (sSeq (sSet 1 (mLst []))
  (sSeq (sFor (itSeq (mV 0)) (.nm 2) b1__law_flat)
  (sRet (mMove 1))))
def e__law_flat : FnE := ⟨fnOf 3 m__law_flat, 1, false⟩
/-! _law_rooms_within : 0 _law_house_here, 1 _law_floor -/
def m__law_rooms_within : MS := (sRet (mComp [1] (itRng [(.ex (mFn oLen [(.ex (mBin oIx (.nm 0) (.ex (mC (.int 1)))))]))]) (.nm 1) mYes (mFn oSum [(.ex (mSl (.ex (mBin oIx (.nm 0) (.ex (mC (.int 1))))) none (some (mBin oAdd (.nm 1) (.ex (mC (.int 1)))))))])))
def e__law_rooms_within : FnE := ⟨fnOf 2 m__law_rooms_within, 1, false⟩
/-! _law_within : 0 _law_house_here, 1 _law_state_here, 2 _law_floor, 3 _law_thing -/
def m__law_within : MS := (sRet (mComp [3] (itRng [(.ex (mBin oIx (.nm 0) (.ex (mC (.int 0)))))]) (.nm 3) (asT (mBin oLe (.ex (mBin oIx (.nm 1) (.nm 3))) (.nm 2))) (mV 3)))
def e__law_within : FnE := ⟨fnOf 4 m__law_within, 3, false⟩
/-! _law_sizes : 0 _law_house_here, 1 _law_state_here, 2 _law_floor -/
def m__law_sizes : MS := (sRet (mFn oTuple [(.ex (mComp [2] (itRng [(.ex (mFn oLen [(.ex (mBin oIx (.nm 0) (.ex (mC (.int 1)))))]))]) (.nm 2) mYes (mFn oLen [(.ex (mCall e__law_within [(false, (mV 0)), (false, (mV 1)), (false, (mV 2))]))])))]))
def e__law_sizes : FnE := ⟨fnOf 3 m__law_sizes, 2, false⟩
/-! _law_state : 0 _law_bag_here, 1 _law_house_here, 2 _law_many, 3 _law_rooms, 4 _law_left, 5 _law_way, 6 _law_state_here, 7 _law_thing, 8 _law_open_floors, 9 _law_floor, 10 _law_free -/
def b1__law_state : MS := (sSeq (sSet 8 (mCompB 4 true [9, 10] (.tup [(.nm 9), (.nm 10)]) (asT (mBin oGt (.nm 10) (.ex (mC (.int 0))))) (mV 9)))
  (sSeq (sIf (mAnd (asT (mBin oEq (.nm 5) (.ex (mC (.int 1))))) (asT (mBin oNe (.nm 8) (.ex (mLst [])))))
  (sItem 6 (mV 7) (mBin oIx (.nm 8) (.ex (mC (.int 0)))))
  (sIf (mAnd (asT (mBin oGt (.nm 5) (.ex (mC (.int 1))))) (asT (mBin oNe (.nm 8) (.ex (mLst [])))))
  (sItem 6 (mV 7) (mCallR e__law_one 0 [(false, (mBin oAdd (.nm 8) (.ex (mBin oMul (.ex (mLst [(false, (mFn oLen [(.nm 3)]))])) (.ex (mBin oSub (.nm 5) (.ex (mC (.int 2)))))))))]))
  sNx))
  (sIf (asT (mBin oLt (.ex (mBin oIx (.nm 6) (.nm 7))) (.ex (mFn oLen [(.nm 3)]))))
  (sAugI 4 (fun i j => i - j) (mBin oIx (.nm 6) (.nm 7)) (mC (.int 1)))
  sNx)))
def m__law_state : MS := (sSeq (sPut (.tup [(.nm 2), (.nm 3)]) (mV 1))
  (sSeq (sPar [4, 5, 6] [(mFn oList [(.nm 3)]), (mCallR e__law_take 0 [(false, (mC (.int 4)))]), (mBin oMul (.ex (mLst [(false, (mFn oLen [(.nm 3)]))])) (.nm 2))])
  (sSeq (sFor (itSeq (mCallR e__law_mixed 0 [(false, (lstRng (itRng [(.nm 2)])))])) (.nm 7) b1__law_state)
  (sRet (mFn oTuple [(.nm 6)])))))
def e__law_state : FnE := ⟨fnOf 11 m__law_state, 2, true⟩
/-! _law_full_state : 0 _law_bag_here, 1 _law_house_here, 2 _law_places, 3 _law_floor, 4 _law_rooms -/
def m__law_full_state : MS := (sSeq (sSet 2 (mCall e__law_flat [(false, (mComp [3, 4] (itEnum (mBin oIx (.nm 1) (.ex (mC (.int 1))))) (.tup [(.nm 3), (.nm 4)]) mYes (mBin oMul (.ex (mLst [(false, (mV 3))])) (.nm 4))))]))
  (sRet (mFn oTuple [(.ex (mCallR e__law_mixed 0 [(false, (mBin oAdd (.nm 2) (.ex (mBin oMul (.ex (mLst [(false, (mFn oLen [(.ex (mBin oIx (.nm 1) (.ex (mC (.int 1)))))]))])) (.ex (mBin oSub (.ex (mBin oIx (.nm 1) (.ex (mC (.int 0))))) (.ex (mFn oLen [(.nm 2)]))))))))]))])))
def e__law_full_state : FnE := ⟨fnOf 5 m__law_full_state, 2, true⟩
/-! _law_start : 0 _law_bag_here, 1 _law_house_here, 2 _law_menu -/
def m__law_start : MS := (sSeq (sSet 2 (mLst [(false, (mBin oMul (.ex (mTup [(false, (mFn oLen [(.ex (mBin oIx (.nm 1) (.ex (mC (.int 1)))))]))])) (.ex (mBin oIx (.nm 1) (.ex (mC (.int 0))))))), (false, (mCallR e__law_state 0 [(false, (mV 1))])), (false, (mCallR e__law_state 0 [(false, (mV 1))]))]))
  (sRet (mCallR e__law_one 0 [(false, (mBin oAdd (.nm 2) (.ex (mBin oMul (.ex (mLst [(false, (mC .none))])) (.ex (mFn oInt [(.ex (mBin oGe (.ex (mBin oIx (.nm 1) (.ex (mC (.int 0))))) (.ex (mFn oSum [(.ex (mBin oIx (.nm 1) (.ex (mC (.int 1)))))]))))]))))))])))
def e__law_start : FnE := ⟨fnOf 3 m__law_start, 2, true⟩
/-! _law_done : 0 _law_house_here, 1 _law_state_here, 2 _law_move, 3 _law_word, 4 _law_thing, 5 _law_downs, 6 _law_floors, 7 _law_now, 8 _law_at, 9 _law_down, 10 _law_last -/
def b1__law_done : MS := (sSeq (sIf (mOr (asT (mBin oGe (.nm 8) (.nm 6))) (mOr (asT (mBin oLe (.ex (mMeth oCount (.nm 7) (.nm 8))) (.ex (mBin oIx (.ex (mBin oIx (.nm 0) (.ex (mC (.int 1))))) (.nm 8))))) (mOr (asT (mBin oNe (.ex (mBin oIx (.nm 7) (.nm 9))) (.nm 8))) (mAnd (asT (mBin oEq (.nm 8) (.ex (mC (.int 0))))) (asT (mBin oEq (.nm 9) (.nm 4)))))))
  (sRet (mC .none))
  sNx)
  (sItem 7 (mV 9) (mBin oAdd (.nm 8) (.ex (mC (.int 1))))))
def m__law_done : MS := (sSeq (sPut (.tup [(.nm 3), (.nm 4), (.nm 5)]) (mV 2))
  (sSeq (sPar [6, 7] [(mFn oLen [(.ex (mBin oIx (.nm 0) (.ex (mC (.int 1)))))]), (mFn oList [(.nm 1)])])
  (sSeq (sIf (asT (mBin oEq (.nm 3) (.ex (mC (.str "strike")))))
  (sSeq (sItem 7 (mV 4) (mV 6))
  (sRet (mIf (asT (mBin oEq (.nm 5) (.ex (mTup [])))) (mFn oTuple [(.nm 7)]) (mC .none))))
  sNx)
  (sSeq (sItem 7 (mV 4) (mC (.int 0)))
  (sSeq (sFor (itEnum (mV 5)) (.tup [(.nm 8), (.nm 9)]) b1__law_done)
  (sSeq (sSet 10 (mFn oLen [(.nm 5)]))
  (sRet (mIf (mOr (asT (mBin oGe (.nm 10) (.nm 6))) (asT (mBin oLe (.ex (mMeth oCount (.nm 7) (.nm 10))) (.ex (mBin oIx (.ex (mBin oIx (.nm 0) (.ex (mC (.int 1))))) (.nm 10)))))) (mFn oTuple [(.nm 7)]) (mC .none)))))))))
def e__law_done : FnE := ⟨fnOf 11 m__law_done, 3, false⟩
/-! _law_drawn_move : 0 _law_bag_here, 1 _law_house_here, 2 _law_state_here, 3 _law_thing, 4 _law_way, 5 _law_downs, 6 _law_now, 7 _law_at, 8 _law_there, 9 _law_one_here, 10 _law_down -/
def b1__law_drawn_move : MS := (sSeq (sSet 7 (mFn oLen [(.nm 5)]))
  (sSeq (sSet 8 (mComp [9] (itRng [(.ex (mBin oIx (.nm 1) (.ex (mC (.int 0)))))]) (.nm 9) (mAnd (asT (mBin oEq (.ex (mBin oIx (.nm 6) (.nm 9))) (.nm 7))) (mOr (asT (mBin oGt (.nm 7) (.ex (mC (.int 0))))) (asT (mBin oNe (.nm 9) (.nm 3))))) (mV 9)))
  (sSeq (sSet 10 (mIf (asT (mBin oEq (.nm 4) (.ex (mC (.int 1))))) (mBin oIx (.nm 8) (.ex (mUn oNeg (.ex (mC (.int 1)))))) (mIf (mAnd (asT (mBin oEq (.nm 4) (.ex (mC (.int 2))))) (asT (mBin oGt (.nm 7) (.ex (mC (.int 0)))))) (mBin oIx (.nm 5) (.ex (mUn oNeg (.ex (mC (.int 1)))))) (mCallR e__law_one 0 [(false, (mV 8))]))))
  (sPutX [(.tg (.nm 5)), (.ix 6 (mV 10))] (mTup [(false, (mBin oAdd (.nm 5) (.ex (mTup [(false, (mV 10))])))), (false, (mBin oAdd (.nm 7) (.ex (mC (.int 1)))))])))))
def m__law_drawn_move : MS := (sSeq (sPar [5, 6] [(mTup []), (mFn oList [(.nm 2)])])
  (sSeq (sItem 6 (mV 3) (mC (.int 0)))
  (sSeq (whileL (mAnd (asT (mBin oLt (.ex (mFn oLen [(.nm 5)])) (.ex (mFn oLen [(.ex (mBin oIx (.nm 1) (.ex (mC (.int 1)))))])))) (asT (mBin oGt (.ex (mMeth oCount (.nm 6) (.ex (mFn oLen [(.nm 5)])))) (.ex (mBin oIx (.ex (mBin oIx (.nm 1) (.ex (mC (.int 1))))) (.ex (mFn oLen [(.nm 5)]))))))) b1__law_drawn_move mostTurns)
  (sRet (mTup [(false, (mC (.str "ask"))), (false, (mV 3)), (false, (mV 5))])))))
def e__law_drawn_move : FnE := ⟨fnOf 11 m__law_drawn_move, 5, true⟩
/-! _law_run : 0 _law_bag_here, 1 _law_house_here, 2 _law_state_here, 3 _law_many, 4 _law_strikes, 5 _law_run_here, 6 _law_log, 7 _law_states, 8 _law_way, 9 _law_favoured, 10 _law_turn, 11 _law_thing, 12 _law_move -/
def b1__law_run : MS := (sSeq (sSet 11 (mIf (asT (mBin oGt (.ex (mCallR e__law_take 0 [(false, (mC (.int 3)))])) (.ex (mC (.int 0))))) (mCallR e__law_one 0 [(false, (mV 9))]) (mCallR e__law_take 0 [(false, (mBin oIx (.nm 1) (.ex (mC (.int 0)))))])))
  (sSeq (sSet 12 (mTup [(false, (mC (.str "strike"))), (false, (mV 11)), (false, (mTup []))]))
  (sSeq (sIf (mOr (asT (mBin oEq (.nm 4) (.ex (mC (.int 0))))) (asT (mBin oGt (.ex (mCallR e__law_take 0 [(false, (mV 4))])) (.ex (mC (.int 0))))))
  (sSet 12 (mCallR e__law_drawn_move 0 [(false, (mV 1)), (false, (mBin oIx (.nm 7) (.ex (mUn oNeg (.ex (mC (.int 1))))))), (false, (mV 11)), (false, (mV 8))]))
  sNx)
  (sSeq (sApp 5 (mV 12))
  (sSeq (sApp 6 (mTup [(false, (mBin oIx (.nm 12) (.ex (mC (.int 0))))), (false, (mV 11)), (false, (mBin oIx (.ex (mBin oIx (.nm 7) (.ex (mUn oNeg (.ex (mC (.int 1))))))) (.nm 11)))]))
  (sApp 7 (mCall e__law_done [(false, (mV 1)), (false, (mBin oIx (.nm 7) (.ex (mUn oNeg (.ex (mC (.int 1))))))), (false, (mV 12))])))))))
def m__law_run : MS := (sSeq (sPar [5, 6, 7, 8] [(mLst []), (mLst []), (mLst [(false, (mV 2))]), (mCallR e__law_one 0 [(false, (mLst [(false, (mC (.int 0))), (false, (mC (.int 0))), (false, (mC (.int 1))), (false, (mC (.int 2)))]))])])
  (sSeq (sSet 9 (mSl (.ex (mCallR e__law_mixed 0 [(false, (lstRng (itRng [(.ex (mBin oIx (.nm 1) (.ex (mC (.int 0)))))])))])) none (some (mBin oAdd (.ex (mC (.int 1))) (.ex (mCallR e__law_take 0 [(false, (mFn oMax [(.ex (mC (.int 1))), (.ex (mBin oIx (.nm 1) (.ex (mC (.int 0)))))]))]))))))
  (sSeq (sFor (itRng [(.ex (mIf (asT (mBin oGt (.ex (mBin oIx (.nm 1) (.ex (mC (.int 0))))) (.ex (mC (.int 0))))) (mV 3) (mC (.int 0))))]) (.nm 10) b1__law_run)
  (sRet (mTup [(false, (mFn oTuple [(.nm 5)])), (false, (mFn oTuple [(.nm 6)])), (false, (mV 7))])))))
def e__law_run : FnE := ⟨fnOf 13 m__law_run, 5, true⟩
/-! _law_story : 0 _law_bag_here, 1 _law_house_here, 2 _law_start_here, 3 _law_many, 4 _law_strikes -/
def m__law_story : MS := (sRet (mCallR e__law_run 0 [(false, (mV 1)), (false, (mIf (asT (mBin oIs (.nm 2) (.ex (mC .none)))) (mCallR e__law_full_state 0 [(false, (mV 1))]) (mV 2))), (false, (mV 3)), (false, (mV 4))]))
def e__law_story : FnE := ⟨fnOf 5 m__law_story, 5, true⟩
/-! _law_all_states : 0 _law_house_here, 1 _law_found, 2 _law_out, 3 _law_thing, 4 _law_more, 5 _law_state_here, 6 _law_floor, 7 _law_rooms -/
def b1__law_all_states : MS := (sSeq (sExt 4 (mComp [6, 7] (itEnum (mBin oIx (.nm 0) (.ex (mC (.int 1))))) (.tup [(.nm 6), (.nm 7)]) (asT (mBin oLt (.ex (mMeth oCount (.nm 5) (.nm 6))) (.nm 7))) (mBin oAdd (.nm 5) (.ex (mTup [(false, (mV 6))])))))
  (sApp 4 (mBin oAdd (.nm 5) (.ex (mTup [(false, (mV 2))])))))
def b2__law_all_states : MS := (sSeq (sSet 4 (mLst []))
  (sSeq (sFor (itSeq (mV 1)) (.nm 5) b1__law_all_states)
  (sSet 1 (mV 4))))
def m__law_all_states : MS := (sSeq (sPar [1, 2] [(mLst [(false, (mTup []))]), (mFn oLen [(.ex (mBin oIx (.nm 0) (.ex (mC (.int 1)))))])])
  (sSeq (sFor (itRng [(.ex (mBin oIx (.nm 0) (.ex (mC (.int 0)))))]) (.nm 3) b2__law_all_states)
  (sRet (mMove 1))))
def e__law_all_states : FnE := ⟨fnOf 8 m__law_all_states, 1, false⟩
/-! _law_first_known : 0 _law_house_here, 1 _law_start_here, 2 _law_many, 3 _law_words, 4 _law_rooms, 5 _law_count, 6 _law_order, 7 _law_size -/
def b1__law_first_known : MS := (sApp 3 (mFn oTuple [(.ex (mComp [5] (itRng [(.ex (mBin oAdd (.nm 2) (.ex (mC (.int 1)))))]) (.nm 5) mYes (mFn oMax [(.ex (mC (.int 0))), (.ex (mBin oSub (.nm 4) (.ex (mBin oSub (.nm 2) (.nm 5)))))])))]))
def b2__law_first_known : MS := (sApp 3 (mFn oTuple [(.ex (mComp [5] (itRng [(.ex (mBin oAdd (.nm 2) (.ex (mC (.int 1)))))]) (.nm 5) mYes (mFn oMin [(.nm 5), (.nm 7)])))]))
def m__law_first_known : MS := (sSeq (sPar [2, 3] [(mBin oIx (.nm 0) (.ex (mC (.int 0)))), (mLst [])])
  (sSeq (sIf (asT (mBin oIs (.nm 1) (.ex (mC .none))))
  (sSeq (sFor (itSeq (mCall e__law_rooms_within [(false, (mV 0))])) (.nm 4) b1__law_first_known)
  (sRet (mTup [(false, (tupRng (itRng [(.nm 2)]))), (false, (mFn oTuple [(.nm 3)]))])))
  sNx)
  (sSeq (sSet 6 (mFn oTuple [(.ex (mSortRow 1 (.nm 2)))]))
  (sSeq (sFor (itSeq (mCall e__law_sizes [(false, (mV 0)), (false, (mV 1))])) (.nm 7) b2__law_first_known)
  (sRet (mTup [(false, (mV 6)), (false, (mFn oTuple [(.nm 3)]))]))))))
def e__law_first_known : FnE := ⟨fnOf 8 m__law_first_known, 2, false⟩
/-! _law_led : 0 _law_house_here, 1 _law_known_here, 2 _law_entry, 3 _law_order, 4 _law_words, 5 _law_word, 6 _law_thing, 7 _law_found, 8 _law_place, 9 _law_sizes_here, 10 _law_rows, 11 _law_floor, 12 _law_row, 13 _law_less, 14 _law_later, 15 _law_one_here, 16 _law_tight, 17 _law_rest, 18 _law_made, 19 _law_is_less -/
def b1__law_led : MS := (sSeq (sSet 13 (mFn oInt [(.ex (mBin oGe (.nm 11) (.nm 7)))]))
  (sSeq (sSet 14 (mComp [15] (itSeq (mSl (.nm 12) (some (mBin oAdd (.nm 8) (.ex (mC (.int 1))))) none)) (.nm 15) mYes (mBin oSub (.nm 15) (.nm 13))))
  (sSeq (sApp 10 (mFn oTuple [(.ex (mBin oAdd (.ex (mBin oAdd (.ex (mFn oList [(.ex (mSl (.nm 12) none (some (mV 8))))])) (.ex (mLst [(false, (mFn oMax [(.ex (mBin oIx (.nm 12) (.nm 8))), (.ex (mBin oIx (.nm 14) (.ex (mC (.int 0)))))]))])))) (.ex (mSl (.nm 14) (some (mC (.int 1))) none))))]))
  (sAugI 9 (fun i j => i - j) (mV 11) (mV 13)))))
def b2__law_led : MS := (sSeq (sSet 19 (mAndV (mBin oLt (.nm 11) (.nm 7)) (mBin oEq (.ex (mBin oIx (.nm 9) (.nm 11))) (.ex (mFn oSum [(.ex (mSl (.ex (mBin oIx (.nm 0) (.ex (mC (.int 1))))) none (some (mBin oAdd (.nm 11) (.ex (mC (.int 1)))))))])))))
  (sApp 18 (mBin oAdd (.ex (mTup [(false, (mC (.int 0)))])) (.ex (mFn oTuple [(.ex (mComp [15] (itSeq (mV 12)) (.nm 15) mYes (mBin oAdd (.ex (mFn oMax [(.ex (mC (.int 0))), (.ex (mBin oSub (.nm 15) (.ex (mFn oInt [(.nm 19)]))))])) (.ex (mC (.int 1))))))])))))
def m__law_led : MS := (sSeq (sPut (.tup [(.nm 3), (.nm 4)]) (mV 1))
  (sSeq (sPut (.tup [(.nm 5), (.nm 6), (.nm 7)]) (mV 2))
  (sSeq (sPar [8, 9, 10] [(mMeth oIndex (.nm 3) (.nm 6)), (mFn oList [(.ex (mCall e__law_known_sizes [(false, (mV 1))]))]), (mLst [])])
  (sSeq (sFor (itEnum (mV 4)) (.tup [(.nm 11), (.nm 12)]) b1__law_led)
  (sSeq (sSet 16 (mCall e__law_tightened [(false, (mFn oTuple [(.nm 10)])), (false, (mFn oTuple [(.nm 9)]))]))
  (sSeq (sIf (asT (mBin oIs (.nm 16) (.ex (mC .none))))
  (sRet (mC .none))
  sNx)
  (sSeq (sSet 17 (mBin oAdd (.ex (mSl (.nm 3) none (some (mV 8)))) (.ex (mSl (.nm 3) (some (mBin oAdd (.nm 8) (.ex (mC (.int 1))))) none))))
  (sSeq (sIf (asT (mBin oEq (.nm 5) (.ex (mC (.str "strike")))))
  (sRet (mTup [(false, (mBin oAdd (.nm 17) (.ex (mTup [(false, (mV 6))])))), (false, (mFn oTuple [(.ex (mComp [12] (itSeq (mV 16)) (.nm 12) mYes (mBin oAdd (.nm 12) (.ex (mSl (.nm 12) (some (mUn oNeg (.ex (mC (.int 1))))) none)))))]))]))
  sNx)
  (sSeq (sSet 18 (mLst []))
  (sSeq (sFor (itEnum (mV 16)) (.tup [(.nm 11), (.nm 12)]) b2__law_led)
  (sRet (mTup [(false, (mBin oAdd (.ex (mTup [(false, (mV 6))])) (.nm 17))), (false, (mFn oTuple [(.nm 18)]))]))))))))))))
def e__law_led : FnE := ⟨fnOf 20 m__law_led, 3, false⟩
/-! _law_led_by : 0 _law_house_here, 1 _law_known_here, 2 _law_log, 3 _law_index, 4 _law_entry, 5 _law_later -/
def b1__law_led_by : MS := (sSeq (sSet 5 (mCall e__law_led [(false, (mV 0)), (false, (mV 1)), (false, (mV 4))]))
  (sSeq (sIf (asT (mBin oIs (.nm 5) (.ex (mC .none))))
  (sRet (mTup [(false, (mV 1)), (false, (mV 3))]))
  sNx)
  (sSet 1 (mV 5))))
def m__law_led_by : MS := (sSeq (sFor (itEnum (mV 2)) (.tup [(.nm 3), (.nm 4)]) b1__law_led_by)
  (sRet (mTup [(false, (mV 1)), (false, (mC .none))])))
def e__law_led_by : FnE := ⟨fnOf 6 m__law_led_by, 3, false⟩
/-! _law_fits : 0 _law_house_here, 1 _law_known_here, 2 _law_state_here, 3 _law_floor, 4 _law_word, 5 _law_within_here, 6 _law_count, 7 _law_thing -/
def b1__law_fits : MS := (sSeq (sAug 5 (fun i j => i + j) (mFn oInt [(.ex (mBin oLe (.ex (mBin oIx (.nm 2) (.nm 7))) (.nm 3)))]))
  (sIf (asT (mBin oLt (.nm 5) (.ex (mBin oIx (.nm 4) (.ex (mBin oAdd (.nm 6) (.ex (mC (.int 1)))))))))
  (sRet (mC (.bool false)))
  sNx))
def b2__law_fits : MS := (sSeq (sSet 5 (mC (.int 0)))
  (sFor (itEnum (mBin oIx (.nm 1) (.ex (mC (.int 0))))) (.tup [(.nm 6), (.nm 7)]) b1__law_fits))
def m__law_fits : MS := (sSeq (sIf (asT (mBin oNe (.ex (mCall e__law_sizes [(false, (mV 0)), (false, (mV 2))])) (.ex (mCall e__law_known_sizes [(false, (mV 1))]))))
  (sRet (mC (.bool false)))
  sNx)
  (sSeq (sFor (itEnum (mBin oIx (.nm 1) (.ex (mC (.int 1))))) (.tup [(.nm 3), (.nm 4)]) b2__law_fits)
  (sRet (mC (.bool true)))))
def e__law_fits : FnE := ⟨fnOf 8 m__law_fits, 3, false⟩
/-! _law_tight_known : 0 _law_bag_here, 1 _law_house_here, 2 _law_order, 3 _law_sizes_here, 4 _law_size, 5 _law_rooms, 6 _law_turn, 7 _law_rows, 8 _law_drawn, 9 _law_count, 10 _law_way, 11 _law_words -/
def b1__law_tight_known : MS := (sSeq (sSet 4 (mFn oMin [(.ex (mBin oIx (.nm 1) (.ex (mC (.int 0))))), (.ex (mBin oAdd (.nm 4) (.ex (mCallR e__law_one 0 [(false, (mLst [(false, (mV 5)), (false, (mV 5)), (false, (mCallR e__law_take 0 [(false, (mBin oAdd (.nm 5) (.ex (mC (.int 1)))))]))]))]))))]))
  (sApp 3 (mV 4)))
def b2__law_tight_known : MS := (sSeq (sSet 8 (mComp [9] (itRng [(.ex (mBin oAdd (.ex (mBin oIx (.nm 1) (.ex (mC (.int 0))))) (.ex (mC (.int 1)))))]) (.nm 9) mYes (mTup [(false, (mCallR e__law_take 0 [(false, (mC (.int 3)))])), (false, (mV 9))])))
  (sApp 7 (mFn oTuple [(.ex (mComp [10, 9] (itSeq (mV 8)) (.tup [(.nm 10), (.nm 9)]) mYes (mIf (asT (mBin oEq (.nm 10) (.ex (mC (.int 0))))) (mFn oMin [(.nm 9), (.nm 4), (.ex (mCallR e__law_take 0 [(false, (mBin oAdd (.nm 9) (.ex (mC (.int 1)))))]))]) (mC (.int 0)))))])))
def b3__law_tight_known : MS := (sSeq (sSet 7 (mLst []))
  (sSeq (sFor (itSeq (mV 3)) (.nm 4) b2__law_tight_known)
  (sSeq (sSet 11 (mCall e__law_tightened [(false, (mFn oTuple [(.nm 7)])), (false, (mFn oTuple [(.nm 3)]))]))
  (sIf (asT (mBin oIsNot (.nm 11) (.ex (mC .none))))
  (sRet (mTup [(false, (mV 2)), (false, (mV 11))]))
  sNx))))
def m__law_tight_known : MS := (sSeq (sPar [2, 3, 4] [(mFn oTuple [(.ex (mCallR e__law_mixed 0 [(false, (lstRng (itRng [(.ex (mBin oIx (.nm 1) (.ex (mC (.int 0)))))])))]))]), (mLst []), (mC (.int 0))])
  (sSeq (sFor (itSeq (mBin oIx (.nm 1) (.ex (mC (.int 1))))) (.nm 5) b1__law_tight_known)
  (sSeq (sFor (itRng [(.ex (mC (.int 3)))]) (.nm 6) b3__law_tight_known)
  (sRet (mTup [(false, (mV 2)), (false, (mCall e__law_tightened [(false, (mBin oMul (.ex (mTup [(false, (mBin oMul (.ex (mTup [(false, (mC (.int 0)))])) (.ex (mBin oAdd (.ex (mBin oIx (.nm 1) (.ex (mC (.int 0))))) (.ex (mC (.int 1)))))))])) (.ex (mFn oLen [(.nm 3)])))), (false, (mFn oTuple [(.nm 3)]))]))])))))
def e__law_tight_known : FnE := ⟨fnOf 12 m__law_tight_known, 2, true⟩
/-! _law_known : 0 _law_bag_here, 1 _law_house_here, 2 _law_many, 3 _law_strikes, 4 _law_start_here, 5 _law_run_here, 6 _law_log, 7 _law_states -/
def m__law_known : MS := (sSeq (sSet 4 (mCallR e__law_start 0 [(false, (mV 1))]))
  (sSeq (sPut (.tup [(.nm 5), (.nm 6), (.nm 7)]) (mCallR e__law_story 0 [(false, (mV 1)), (false, (mV 4)), (false, (mCallR e__law_one 0 [(false, (mLst [(false, (mV 2)), (false, (mCallR e__law_take 0 [(false, (mBin oAdd (.nm 2) (.ex (mC (.int 1)))))])), (false, (mC (.int 0))), (false, (mV 2))]))])), (false, (mV 3))]))
  (sRet (mTup [(false, (mV 4)), (false, (mV 6)), (false, (mBin oIx (.ex (mCall e__law_led_by [(false, (mV 1)), (false, (mCall e__law_first_known [(false, (mV 1)), (false, (mV 4))])), (false, (mV 6))])) (.ex (mC (.int 0)))))]))))
def e__law_known : FnE := ⟨fnOf 8 m__law_known, 4, true⟩
/-! _law_some_known : 0 _law_bag_here, 1 _law_house_here -/
def m__law_some_known : MS := (sRet (mIf (asT (mBin oEq (.ex (mCallR e__law_take 0 [(false, (mC (.int 3)))])) (.ex (mC (.int 0))))) (mCallR e__law_tight_known 0 [(false, (mV 1))]) (mBin oIx (.ex (mCallR e__law_known 0 [(false, (mV 1)), (false, (mC (.int 12))), (false, (mC (.int 6)))])) (.ex (mC (.int 2))))))
def e__law_some_known : FnE := ⟨fnOf 2 m__law_some_known, 2, true⟩
/-! _law_states_that_fit : 0 _law_house_here, 1 _law_known_here, 2 _law_state_here -/
def m__law_states_that_fit : MS := (sRet (mComp [2] (itSeq (mCall e__law_all_states [(false, (mV 0))])) (.nm 2) (mT (.ex (mCall e__law_fits [(false, (mV 0)), (false, (mV 1)), (false, (mV 2))]))) (mV 2)))
def e__law_states_that_fit : FnE := ⟨fnOf 3 m__law_states_that_fit, 2, false⟩
/-! _law_some_house : 0 _law_bag_here, 1 _law_menu, 2 _law_things, 3 _law_house_here -/
def m__law_some_house : MS := (sSeq (sSet 2 (mCallR e__law_one 0 [(false, (mV 1))]))
  (sSeq (sSet 3 (mIf (asT (mBin oLt (.nm 2) (.ex (mC (.int 7))))) (mCallR e__law_house 0 [(false, (mV 2)), (false, (mC (.int 3))), (false, (mC (.int 5)))]) (mCallR e__law_house 0 [(false, (mV 2)), (false, (mC (.int 4))), (false, (mC (.int 12)))])))
  (sRet (mIf (asT (mBin oGt (.ex (mCallR e__law_take 0 [(false, (mC (.int 6)))])) (.ex (mC (.int 0))))) (mTup [(false, (mBin oSub (.nm 2) (.ex (mCallR e__law_take 0 [(false, (mC (.int 2)))])))), (false, (mBin oIx (.nm 3) (.ex (mC (.int 1)))))]) (mV 3)))))
def e__law_some_house : FnE := ⟨fnOf 4 m__law_some_house, 2, true⟩
end FW

/-! FwJ: flat, rooms, things within, sizes. -/
namespace FW
open PySem FK
/-- a sequence's datum -/
theorem seqOf_lisI (xs : List Int) : seqOf (lisI xs) = some (intsD xs) := rfl
theorem flat_ok {α : Type} (f : List α → FK.D) (e : α → FK.D) (hs : ∀ xs, seqOf (f xs) = some (xs.map e)) (rows : List (List α)) (n : Nat) (hn : rows.flatten.length ≤ n) (h1 : n ≤ 16777216) {d : FK.D} (hd : seqOf d = some (rows.map f)) :
    wpF (e__law_flat.f [.fz d]) fun v _ => v = .ow (rows.flatten.map e) := by
  show wpF (fnOf 3 m__law_flat _) _
  rw [wpF_fnOf]
  unfold m__law_flat
  simp_arith [hd]
  refine wp_forL (enc := f) (fun done rest ρ => done ++ rest = rows ∧ ∃ x2, ρ = [some (.fz d), some (.ow (done.flatten.map e)), x2]) (fun done a rest ρ h => ?_) (fun done ρ h => ?_) rows [] _ ⟨rfl, _, rfl⟩
  · obtain ⟨h1', x2, rfl⟩ := h
    have hl : (done.flatten.map e).length + (a.map e).length ≤ 16777216 := by
      have : rows.flatten.length = done.flatten.length + (a.length + rest.flatten.length) := by rw [← h1', List.flatten_append, List.flatten_cons, List.length_append, List.length_append]
      rw [List.length_map, List.length_map]; omega
    unfold b1__law_flat
    simp_arith
    have ee : extD (f a) (done.flatten.map e) = some ((), done.flatten.map e ++ a.map e) := by
      rw [ext_D, hs]
      exact if_pos hl
    simp_arith [ee]
    refine ⟨by rw [List.append_assoc]; exact h1', some (.fz (f a)), ?_⟩
    rw [List.flatten_append, List.map_append]
    simp
  · obtain ⟨h1', x2, rfl⟩ := h
    simp_arith
    rw [← h1', List.append_nil]
/-! ### houses -/
abbrev hou (M : Nat) (rs : List Int) : FK.D := .tuple [.int (M : Int), tupI rs]
def roomsW (rs : List Int) : List Int := (List.range rs.length).map fun f => (rs.take (f + 1)).sum
theorem cut_first {α : Type} (g : α → FK.D) (xs : List α) (k : Nat) (i : Int) (hi : i = (k : Int)) : cutD (xs.map g) none (some i) = (xs.take k).map g := by
  subst hi
  unfold cutD
  show (List.drop (HT.sIx (xs.map g).length 0 none) (xs.map g)).take (HT.sIx (xs.map g).length (xs.map g).length (some (k : Int)) - HT.sIx (xs.map g).length 0 none) = _
  rw [show HT.sIx (xs.map g).length 0 none = 0 from rfl, show HT.sIx (xs.map g).length (xs.map g).length (some (k : Int)) = min k (xs.map g).length from HT.sIx_nat _ _ k, List.drop_zero, Nat.sub_zero, List.length_map, List.map_take]
  rw [List.take_eq_take_iff]
  simp
theorem cut_from {α : Type} (g : α → FK.D) (xs : List α) (k : Nat) (i : Int) (hi : i = (k : Int)) : cutD (xs.map g) (some i) none = (xs.drop k).map g := by
  subst hi
  unfold cutD
  show (List.drop (HT.sIx (xs.map g).length 0 (some (k : Int))) (xs.map g)).take (HT.sIx (xs.map g).length (xs.map g).length none - HT.sIx (xs.map g).length 0 (some (k : Int))) = _
  rw [show HT.sIx (xs.map g).length (xs.map g).length none = (xs.map g).length from rfl, show HT.sIx (xs.map g).length 0 (some (k : Int)) = min k (xs.map g).length from HT.sIx_nat _ _ k, List.map_drop, List.length_map]
  by_cases h : k ≤ xs.length
  · rw [Nat.min_eq_left h, List.take_of_length_le (by simp)]
  · rw [Nat.min_eq_right (by omega), List.drop_eq_nil_of_le (by simp), List.drop_eq_nil_of_le (by simp; omega), List.take_nil]
theorem cut_mid {α : Type} (g : α → FK.D) (xs : List α) (a b : Nat) (i j : Int) (hi : i = (a : Int)) (hj : j = (b : Int)) (hab : a ≤ b) (hb : b ≤ xs.length) : cutD (xs.map g) (some i) (some j) = ((xs.drop a).take (b - a)).map g := by
  subst hi; subst hj
  unfold cutD
  rw [show HT.sIx (xs.map g).length (xs.map g).length (some (b : Int)) = min b (xs.map g).length from HT.sIx_nat _ _ b, show HT.sIx (xs.map g).length 0 (some (a : Int)) = min a (xs.map g).length from HT.sIx_nat _ _ a, List.length_map, Nat.min_eq_left (by omega), Nat.min_eq_left (by omega), List.map_take, List.map_drop]
theorem rooms_within_ok {M : Nat} {rs : List Int} (h1 : rs.length ≤ 1000) : wpF (e__law_rooms_within.f [.fz (hou M rs)]) fun v _ => v = .ow (intsD (roomsW rs)) := by
  show wpF (fnOf 2 m__law_rooms_within _) _
  rw [wpF_fnOf]
  unfold m__law_rooms_within
  simp_arith [rngOf1 (show rs.length ≤ 1000000 by omega)]
  refine wp_compP (enc := fun (k : Nat) => PyData.int (k : Int)) (g := fun f => [.int ((rs.take (f + 1)).sum)]) (fun a ha => ?_) ?_
  · simp_arith [cut_first PyData.int rs (a + 1) ((a : Int) + 1) (by omega), sum_T]
  · rw [flat1]
    show Val.ow _ = Val.ow (intsD (roomsW rs))
    unfold roomsW intsD
    rw [List.map_map]
    rfl
def withinL (M : Nat) (st : List Int) (f : Int) : List Nat := (List.range M).filter fun t => decide (st.getD t 0 ≤ f)
theorem flat_sel {α : Type} (e : α → FK.D) (p : α → Prop) [DecidablePred p] : ∀ L : List α, (L.flatMap fun a => if p a then [e a] else []) = (L.filter fun a => decide (p a)).map e
  | [] => rfl
  | x :: xs => by
    rw [List.flatMap_cons, List.filter_cons]
    by_cases h : p x
    · rw [if_pos h, if_pos (decide_eq_true h), List.map_cons, flat_sel e p xs]
      rfl
    · rw [if_neg h, if_neg (by simp [h]), flat_sel e p xs]
      rfl
theorem within_ok {M : Nat} {rs st : List Int} {f : Int} (h : st.length = M) (hM : M ≤ 1000) : wpF (e__law_within.f [.fz (hou M rs), .fz (tupI st), .fz (.int f)]) fun v _ => v = .ow ((withinL M st f).map fun (k : Nat) => PyData.int (k : Int)) := by
  show wpF (fnOf 4 m__law_within _) _
  rw [wpF_fnOf]
  unfold m__law_within
  simp_arith [rngOf1 (show M ≤ 1000000 by omega)]
  refine wp_compP (enc := fun (k : Nat) => PyData.int (k : Int)) (g := fun t => if st.getD t 0 ≤ f then [.int (t : Int)] else []) (fun a ha => ?_) ?_
  · have ha := List.mem_range.mp ha
    simp_arith [getAt_ints (w := st) (k := a) rfl (by omega)]
    by_cases c : st.getD a 0 ≤ f
    · rw [if_pos c, if_pos c]
    · rw [if_neg c, if_neg c]
  · rw [flat_sel]
    rfl
def sizesL (rs st : List Int) : List Int := (List.range rs.length).map fun (f : Nat) => ((st.countP (fun x => decide (x ≤ (f : Int))) : Nat) : Int)
theorem within_len {st : List Int} {f : Int} : (withinL st.length st f).length = st.countP fun x => decide (x ≤ f) := by
  unfold withinL
  rw [← List.countP_eq_length_filter]
  have : ∀ (l : List Int) (k : Nat) (L : List Int), l = L.drop k → (List.range' k l.length).countP (fun t => decide (L.getD t 0 ≤ f)) = l.countP fun x => decide (x ≤ f) := fun l => by
    induction l with
    | nil => intro k L h; rfl
    | cons x l ih =>
      intro k L h
      have e1 : L.getD k 0 = x := by
        have : L[k]? = some x := by
          have := congrArg (fun z => z[0]?) h
          simpa using this.symm
        rw [List.getD_eq_getElem?_getD, this]
        rfl
      have e2 : l = L.drop (k + 1) := by
        have := congrArg List.tail h
        simpa using this
      rw [List.length_cons, List.range'_succ, List.countP_cons, List.countP_cons, ih (k + 1) L e2, e1]
  have := this st 0 st (by simp)
  rw [List.range_eq_range']
  exact this
theorem sizes_ok {M : Nat} {rs st : List Int} (h : st.length = M) (hM : M ≤ 1000) (h1 : rs.length ≤ 1000) : wpF (e__law_sizes.f [.fz (hou M rs), .fz (tupI st)]) fun v _ => v = .fz (tupI (sizesL rs st)) := by
  show wpF (fnOf 3 m__law_sizes _) _
  rw [wpF_fnOf]
  unfold m__law_sizes
  simp_arith [rngOf1 (show rs.length ≤ 1000000 by omega)]
  refine wp_compP (enc := fun (k : Nat) => PyData.int (k : Int)) (g := fun (f : Nat) => [.int ((st.countP (fun x => decide (x ≤ (f : Int))) : Nat) : Int)]) (fun a ha => ?_) ?_
  · simp_arith
    refine ⟨rfl, (within_ok (rs := rs) h hM).mono ?_⟩
    rintro _ _ rfl
    simp_arith
    rw [← h, within_len]
  · simp_arith
    rw [flat1]
    unfold sizesL tupI intsD
    rw [List.map_map]
    rfl
end FW

/-! FwK: mixed, states. -/
namespace FW
open PySem FK
theorem perm_map {α β : Type} (e : α → β) {ys xs : List β} (h : ys.Perm xs) : ∀ l : List α, xs = l.map e → ∃ l' : List α, ys = l'.map e ∧ l'.Perm l := by
  induction h with
  | nil =>
    intro l hl
    cases l with
    | nil => exact ⟨[], rfl, .nil⟩
    | cons _ _ => cases hl
  | @cons x l1 l2 _ ih =>
    intro l hl
    cases l with
    | nil => cases hl
    | cons a l =>
      rw [List.map_cons] at hl
      obtain ⟨h1, h2⟩ := List.cons.inj hl
      obtain ⟨l', e1, e2⟩ := ih l h2
      exact ⟨a :: l', by rw [List.map_cons, ← e1, h1], e2.cons a⟩
  | swap x y l1 =>
    intro l hl
    match l, hl with
    | a :: b :: l, hl =>
      rw [List.map_cons, List.map_cons] at hl
      obtain ⟨h1, h2⟩ := List.cons.inj hl
      obtain ⟨h2, h3⟩ := List.cons.inj h2
      exact ⟨b :: a :: l, by rw [List.map_cons, List.map_cons, h1, h2, h3], .swap a b l⟩
  | trans _ _ ih1 ih2 =>
    intro l hl
    obtain ⟨l2, e1, p1⟩ := ih2 l hl
    obtain ⟨l1, e2, p2⟩ := ih1 l2 e1
    exact ⟨l1, e2, p2.trans p1⟩
theorem mixedP {b : Bag} (hb : b.cells.length ≤ 1000) {α : Type} (e : α → FK.D) {l : List α} (h1 : l.length ≤ 1000) {d : FK.D} (hd : seqOf d = some (l.map e)) : wpF (e__law_mixed.f [.ow b.d, .fz d]) fun v o => ∃ l' : List α, ∃ b' : Bag, v = .ow (l'.map e) ∧ l'.Perm l ∧ o = some b'.d ∧ b'.cells.length ≤ 1000 := by
  show wpF (fnOf 4 m__law_mixed _) _
  rw [wpF_fnOf]
  unfold m__law_mixed
  simp_arith [hd]
  refine wp_forL (enc := e) (fun done rest ρ => ∃ ys : List α, ∃ b' : Bag, ∃ x3, ys.Perm done ∧ done ++ rest = l ∧ b'.cells.length ≤ 1000 ∧ ρ = [some (.ow b'.d), some (.fz d), some (.ow (ys.map e)), x3]) (fun done a rest ρ h => ?_) (fun done ρ h => ?_) l [] _ ⟨[], b, none, .nil, rfl, hb, rfl⟩
  · obtain ⟨ys, b', x3, e1, e2, hb', rfl⟩ := h
    have lx : done.length + (a :: rest).length = l.length := by rw [← e2, List.length_append]
    rw [List.length_cons] at lx
    have ly : ys.length < 16777216 := by have := e1.length_eq; omega
    have ly2 : ys.length ≤ 1000 := by have := e1.length_eq; omega
    unfold b1__law_mixed
    simp_arith
    refine ⟨rfl, (tk hb' (n := (ys.length : Int) + 1) (by omega) (by omega)).mono ?_⟩
    rintro _ _ ⟨k, b2, k0, k1, rfl, rfl, hb2⟩
    have k2 : k ≤ 1000000 := by omega
    simp_arith [ly, k0, k2]
    refine ⟨ys.take k.toNat ++ a :: ys.drop k.toNat, b2, some (.fz (e a)), ?_, ?_, hb2, ?_⟩
    · refine List.perm_middle.trans ?_
      rw [List.take_append_drop]
      exact (e1.cons a).trans (List.perm_append_singleton a done).symm
    · rw [List.append_assoc]; exact e2
    · rw [List.map_append, List.map_cons, List.map_take, List.map_drop]
  · obtain ⟨ys, b', x3, e1, e2, hb', rfl⟩ := h
    simp_arith
    refine ⟨ys, b', rfl, ?_, rfl, hb'⟩
    rw [← e2, List.append_nil]
    exact e1
/-- a state of a house -/
structure Sta (M : Nat) (rs st : List Int) : Prop where
  len : st.length = M
  rng : ∀ x ∈ st, 0 ≤ x ∧ x ≤ (rs.length : Int)
  leg : ∀ (f : Nat) (r : Int), rs[f]? = some r → ((st.count (f : Int) : Nat) : Int) ≤ r
theorem nats_good : Good (fun (k : Nat) => PyData.int (k : Int)) 0 := ⟨fun _ => rfl, fun _ => Nat.le_refl 0, fun a b => by
  show ((a : Int) == (b : Int)) = decide (a = b)
  by_cases h : a = b
  · subst h; simp
  · have : ¬ (a : Int) = (b : Int) := by omega
    simp [h, this]⟩
theorem ne_nilN {α : Type} {e : α → FK.D} (hp : ∀ a, (e a).plain = true) (l : List α) : oNe (.list (l.map e)) (.list []) = some (.fz (.bool (!l.isEmpty))) := by
  have : PyData.plainAll (l.map e) = true := by
    induction l with
    | nil => rfl
    | cons a l ih =>
      show ((e a).plain && PyData.plainAll (l.map e)) = true
      rw [hp, ih]
      rfl
  rw [ne_nil0 this]
  cases l <;> rfl
theorem count_set {st : List Int} {t : Nat} {x y : Int} (h : st[t]? = some x) (z : Int) : ((st.set t y).count z : Int) = (st.count z : Int) - (if x = z then 1 else 0) + (if y = z then 1 else 0) := by
  induction st generalizing t with
  | nil => cases h
  | cons a st ih =>
    cases t with
    | zero =>
      have : a = x := by simpa using h
      subst this
      rw [List.set_cons_zero, List.count_cons, List.count_cons]
      by_cases c1 : a = z <;> by_cases c2 : y = z <;> simp [c1, c2] <;> omega
    | succ t =>
      have h' : st[t]? = some x := by simpa using h
      rw [List.set_cons_succ, List.count_cons, List.count_cons]
      have := ih h'
      push_cast
      omega
/-- in the making: what is left, what is placed -/
structure Mak (M : Nat) (rs left st : List Int) (rest : List Nat) : Prop where
  ll : left.length = rs.length
  len : st.length = M
  rng : ∀ x ∈ st, 0 ≤ x ∧ x ≤ (rs.length : Int)
  sum : ∀ (f : Nat) (r l : Int), rs[f]? = some r → left[f]? = some l → 0 ≤ l ∧ l + (st.count (f : Int) : Nat) = r
  out : ∀ t ∈ rest, st[t]? = some (rs.length : Int)
  nd : rest.Nodup
theorem Mak.sta {M : Nat} {rs left st : List Int} (h : Mak M rs left st []) : Sta M rs st := ⟨h.len, h.rng, fun f r e => by
  have hf : f < left.length := by rw [h.ll]; exact (List.getElem?_eq_some_iff.mp e).1
  have := h.sum f r _ e (List.getElem?_eq_getElem hf)
  omega⟩
theorem Mak.skip {M : Nat} {rs left st : List Int} {t : Nat} {rest : List Nat} (h : Mak M rs left st (t :: rest)) : Mak M rs left st rest := ⟨h.ll, h.len, h.rng, h.sum, fun u hu => h.out u (List.mem_cons_of_mem _ hu), (List.nodup_cons.mp h.nd).2⟩
theorem Mak.put {M : Nat} {rs left st : List Int} {t f : Nat} {rest : List Nat} {l : Int} (h : Mak M rs left st (t :: rest)) (hl : left[f]? = some l) (h0 : 0 < l) : Mak M rs (left.set f (l - 1)) (st.set t (f : Int)) rest := by
  have ht := h.out t List.mem_cons_self
  have hf : f < rs.length := by rw [← h.ll]; exact (List.getElem?_eq_some_iff.mp hl).1
  refine ⟨by rw [List.length_set, h.ll], by rw [List.length_set, h.len], fun x hx => ?_, fun g r l' e1 e2 => ?_, fun u hu => ?_, (List.nodup_cons.mp h.nd).2⟩
  · rcases List.mem_or_eq_of_mem_set hx with hx | rfl
    · exact h.rng x hx
    · omega
  · rw [count_set ht]
    have hg : g < rs.length := (List.getElem?_eq_some_iff.mp e1).1
    have n1 : ¬ ((rs.length : Int) = (g : Int)) := by omega
    rw [if_neg n1]
    by_cases c : f = g
    · subst c
      rw [List.getElem?_set_self (by rw [h.ll]; exact hf)] at e2
      cases e2
      have := h.sum f r l e1 hl
      rw [if_pos rfl]
      omega
    · rw [List.getElem?_set_ne c] at e2
      have := h.sum g r l' e1 e2
      rw [if_neg (by omega)]
      omega
  · have : t ≠ u := fun z => (List.nodup_cons.mp h.nd).1 (z ▸ hu)
    rw [List.getElem?_set_ne this]
    exact h.out u (List.mem_cons_of_mem _ hu)
theorem mak0 {M : Nat} {rs : List Int} (hr : ∀ x ∈ rs, 0 ≤ x) {l : List Nat} (hl : ∀ t ∈ l, t < M) (nd : l.Nodup) : Mak M rs rs (List.replicate M (rs.length : Int)) l := ⟨rfl, List.length_replicate, fun x hx => by
    have := (List.mem_replicate.mp hx).2
    omega, fun f r l e1 e2 => by
    rw [e1] at e2
    cases e2
    have hf : f < rs.length := (List.getElem?_eq_some_iff.mp e1).1
    have : (List.replicate M (rs.length : Int)).count (f : Int) = 0 := List.count_eq_zero.mpr fun hm => by
      have := (List.mem_replicate.mp hm).2
      omega
    rw [this]
    have := hr r (List.mem_of_getElem? e1)
    omega, fun t ht => by
    rw [List.getElem?_replicate, if_pos (hl t ht)], nd⟩
def openF (left : List Int) : List Nat := (left.zipIdx.filter fun q => decide (q.1 > 0)).map Prod.snd
theorem openF_get {left : List Int} {f : Nat} (h : f ∈ openF left) : ∃ l, left[f]? = some l ∧ 0 < l := by
  obtain ⟨⟨l, g⟩, hq, rfl⟩ := List.mem_map.mp h
  obtain ⟨h1, h2⟩ := List.mem_filter.mp hq
  exact ⟨l, by simpa using List.mem_zipIdx_iff_getElem?.mp h1, of_decide_eq_true h2⟩
theorem putAt_ints {st : List Int} {k : Nat} {x : Int} (h : k < st.length) : putAt (.int x) (.int (k : Int)) (intsD st) = some ((), intsD (st.set k x)) := by
  rw [putAt_nat (by rw [List.length_map]; exact h)]
  unfold intsD
  rw [List.map_set]
theorem rep_one {α : Type} (x : α) : ∀ n : Nat, (List.replicate n [x]).flatten = List.replicate n x
  | 0 => rfl
  | n + 1 => by
    rw [List.replicate_succ, List.flatten_cons, rep_one x n]
    rfl
theorem open_eq (left : List Int) : (left.zipIdx.flatMap fun q => if 0 < q.1 then [PyData.int (q.2 : Int)] else []) = (openF left).map fun (k : Nat) => PyData.int (k : Int) := by
  rw [flat_sel (fun q : Int × Nat => PyData.int (q.2 : Int)) (fun q => 0 < q.1)]
  unfold openF
  rw [List.map_map]
  rfl
theorem small_i {i : Int} (h : -1000000 ≤ i ∧ i ≤ 1000000) : small i = true := small_of h.1 h.2
section
variable {M : Nat} {rs left st : List Int} {t : Nat} {way : Int} {B x8 : Option Val}
def tailS : MS := sIf (asT (mBin oLt (.ex (mBin oIx (.nm 6) (.nm 7))) (.ex (mFn oLen [(.nm 3)])))) (sAugI 4 (fun i j => i - j) (mBin oIx (.nm 6) (.nm 7)) (mC (.int 1))) sNx
abbrev stR (B : Option Val) (M : Nat) (rs left : List Int) (way : Int) (st : List Int) (x7 x8 : Option Val) : Rho := [B, some (.fz (hou M rs)), some (.fz (.int (M : Int))), some (.fz (tupI rs)), some (.ow (intsD left)), some (.fz (.int way)), some (.ow (intsD st)), x7, x8, none, none]
theorem getAt_some {w : List Int} {k : Nat} {x : Int} (h : w[k]? = some x) : getAt (k : Int) (intsD w) = some (.int x) := getAt_nat (by rw [List.getElem?_map, h]; rfl)
theorem tail_out (hx : st[t]? = some (rs.length : Int)) : wp tailS (stR B M rs left way st (some (.fz (.int (t : Int)))) x8) fun f ρ => f = .nx ∧ ρ = stR B M rs left way st (some (.fz (.int (t : Int)))) x8 := by
  unfold tailS
  simp_arith [getAt_some hx]
  rw [if_neg (by omega)]
  trivial
theorem tail_in {f : Nat} {l : Int} (hx : st[t]? = some (f : Int)) (hl : left[f]? = some l) (hf : f < rs.length) : wp tailS (stR B M rs left way st (some (.fz (.int (t : Int)))) x8) fun g ρ => g = .nx ∧ ρ = stR B M rs (left.set f (l - 1)) way st (some (.fz (.int (t : Int)))) x8 := by
  unfold tailS
  have hfl : f < left.length := (List.getElem?_eq_some_iff.mp hl).1
  simp_arith [getAt_some hx]
  rw [if_pos (by omega)]
  simp_arith [getAt_some hl, putAt_ints hfl]
end
theorem state_ok {b : Bag} (hb : b.cells.length ≤ 1000) {M : Nat} {rs : List Int} (hM : M ≤ 1000) (h1 : rs.length ≤ 1000) (hr : ∀ x ∈ rs, 0 ≤ x) : wpF (e__law_state.f [.ow b.d, .fz (hou M rs)]) fun v o => ∃ st, ∃ b' : Bag, v = .fz (tupI st) ∧ Sta M rs st ∧ o = some b'.d ∧ b'.cells.length ≤ 1000 := by
  show wpF (fnOf 11 m__law_state _) _
  rw [wpF_fnOf]
  unfold m__law_state
  simp_arith
  refine ⟨rfl, (tk hb (n := 4) (by omega) (by omega)).mono ?_⟩
  rintro _ _ ⟨way, b1, w0, w1, rfl, rfl, hb1⟩
  have hs : (small (M : Int) && decide (1 * (M : Int).toNat ≤ 16777216)) = true := by
    rw [small_i (by omega), decide_eq_true (by simp; omega)]
    rfl
  simp_arith [hs]
  rw [rngOf1 (show M ≤ 1000000 by omega)]
  simp_arith
  refine ⟨rfl, (mixedP hb1 (fun (k : Nat) => PyData.int (k : Int)) (l := List.range M) (by rw [List.length_range]; exact hM) rfl).mono ?_⟩
  rintro _ _ ⟨l', b2, rfl, pm, rfl, hb2⟩
  simp_arith
  have er : (List.replicate (M : Int).toNat [PyData.int (rs.length : Int)]).flatten = intsD (List.replicate M (rs.length : Int)) := by
    rw [rep_one, Int.toNat_natCast]
    unfold intsD
    rw [List.map_replicate]
  rw [er]
  refine wp_forL (enc := fun (k : Nat) => PyData.int (k : Int)) (fun done rest ρ => ∃ left st, ∃ b' : Bag, ∃ x7 x8, Mak M rs left st rest ∧ b'.cells.length ≤ 1000 ∧
    ρ = [some (.ow b'.d), some (.fz (hou M rs)), some (.fz (.int (M : Int))), some (.fz (tupI rs)), some (.ow (intsD left)), some (.fz (.int way)), some (.ow (intsD st)), x7, x8, none, none]) (fun done t rest ρ h => ?_) (fun done ρ h => ?_) l' [] _
    ⟨rs, List.replicate M (rs.length : Int), b2, none, none, mak0 hr (fun t ht => List.mem_range.mp (pm.mem_iff.mp ht)) (pm.nodup_iff.mpr List.nodup_range), hb2, rfl⟩
  · obtain ⟨left, st, b', x7, x8, mk, hb', rfl⟩ := h
    unfold b1__law_state
    rw [show (sIf (asT (mBin oLt (.ex (mBin oIx (.nm 6) (.nm 7))) (.ex (mFn oLen [(.nm 3)])))) (sAugI 4 (fun i j => i - j) (mBin oIx (.nm 6) (.nm 7)) (mC (.int 1))) sNx) = tailS from rfl]
    simp_arith
    refine wp_compE (ea := PyData.int) (fun l k => if 0 < l then [PyData.int (k : Int)] else []) (fun l k hq => ?_) ?_
    · simp_arith
      by_cases c : 0 < l
      · rw [if_pos c, if_pos c]
      · rw [if_neg c, if_neg c]
    · rw [open_eq]
      have ht : st[t]? = some (rs.length : Int) := mk.out t List.mem_cons_self
      have htl : t < st.length := (List.getElem?_eq_some_iff.mp ht).1
      have hop := @openF_get left
      generalize hfs : openF left = fs at hop
      simp_arith [ne_nilN (e := fun (k : Nat) => PyData.int (k : Int)) (fun _ => rfl) fs]
      have lF : fs.length ≤ 1000 := by
        have : (openF left).length ≤ left.length := by
          unfold openF
          rw [List.length_map]
          refine Nat.le_trans (List.length_filter_le _ _) ?_
          rw [List.length_zipIdx]; exact Nat.le_refl _
        rw [hfs] at this
        have := mk.ll
        omega
      -- placed on f
      have putF : ∀ (f : Nat) (b3 : Bag), f ∈ fs → b3.cells.length ≤ 1000 → wp tailS (stR (some (.ow b3.d)) M rs left way (st.set t (f : Int)) (some (.fz (.int (t : Int)))) (some (.ow (fs.map fun (k : Nat) => PyData.int (k : Int))))) fun f ρ => f = .nx ∧ ∃ left st, ∃ b' : Bag, ∃ x7 x8, Mak M rs left st rest ∧ b'.cells.length ≤ 1000 ∧ ρ = stR (some (.ow b'.d)) M rs left way st x7 x8 := fun f b3 hf hb3 => by
        obtain ⟨l, e1, e2⟩ := hop hf
        have hfr : f < rs.length := by rw [← mk.ll]; exact (List.getElem?_eq_some_iff.mp e1).1
        refine (tail_in (by rw [List.getElem?_set_self htl]) e1 hfr).mono ?_
        rintro _ _ ⟨rfl, rfl⟩
        exact ⟨rfl, _, _, b3, _, _, mk.put e1 e2, hb3, rfl⟩
      have outF : ∀ (b3 : Bag) (st3 : List Int), st3 = st → b3.cells.length ≤ 1000 → wp tailS (stR (some (.ow b3.d)) M rs left way st3 (some (.fz (.int (t : Int)))) (some (.ow (fs.map fun (k : Nat) => PyData.int (k : Int))))) fun f ρ => f = .nx ∧ ∃ left st, ∃ b' : Bag, ∃ x7 x8, Mak M rs left st rest ∧ b'.cells.length ≤ 1000 ∧ ρ = stR (some (.ow b'.d)) M rs left way st x7 x8 := fun b3 st3 e3 hb3 => by
        subst e3
        refine (tail_out ht).mono ?_
        rintro _ _ ⟨rfl, rfl⟩
        exact ⟨rfl, _, _, b3, _, _, mk.skip, hb3, rfl⟩
      by_cases c1 : way = 1
      · rw [if_pos c1]
        cases fs with
        | nil =>
          rw [if_neg (by simp), if_neg (by omega)]
          refine (outF b' st rfl hb').mono ?_
          rintro _ _ ⟨rfl, h⟩
          exact h
        | cons f fs =>
          rw [if_pos (by simp)]
          simp_arith [putAt_ints htl]
          refine (putF f b' List.mem_cons_self hb').mono ?_
          rintro _ _ ⟨rfl, h⟩
          exact h
      · rw [if_neg c1]
        by_cases c2 : 1 < way
        · rw [if_pos c2]
          by_cases c3 : fs = []
          · subst c3
            rw [if_neg (by simp)]
            refine (outF b' st rfl hb').mono ?_
            rintro _ _ ⟨rfl, h⟩
            exact h
          · have c4 : (!fs.isEmpty) = true := by simp [c3]
            rw [if_pos c4]
            have hs2 : (small (way - 2) && decide (1 * (way - 2).toNat ≤ 16777216)) = true := by
              rw [small_i (by omega), decide_eq_true (by omega)]
              rfl
            have hl2 : fs.length + ((List.replicate (way - 2).toNat [PyData.int (rs.length : Int)]).flatten).length ≤ 16777216 := by
              rw [rep_one, List.length_replicate]; omega
            simp_arith [hs2, hl2]
            rw [rep_one]
            refine ⟨rfl, (one_ok b' (fs.map (fun (k : Nat) => PyData.int (k : Int)) ++ List.replicate (way - 2).toNat (PyData.int (rs.length : Int))) hb' (by simp [c3]) (by simp; omega)).mono ?_⟩
            rintro _ _ ⟨x, b3, hx, rfl, rfl, hb3⟩
            have hb3' : b3.cells.length ≤ 1000 := by rw [hb3]; exact hb'
            rcases List.mem_append.mp hx with hx | hx
            · obtain ⟨f, hf, rfl⟩ := List.mem_map.mp hx
              simp_arith [putAt_ints htl]
              refine (putF f b3 hf hb3').mono ?_
              rintro _ _ ⟨rfl, h⟩
              exact h
            · have hx := (List.mem_replicate.mp hx).2
              subst hx
              simp_arith [putAt_ints htl]
              refine (outF b3 (st.set t (rs.length : Int)) (by
                obtain ⟨_, e⟩ := List.getElem?_eq_some_iff.mp ht
                rw [← e, List.set_getElem_self]) hb3').mono ?_
              rintro _ _ ⟨rfl, h⟩
              exact h
        · rw [if_neg c2]
          refine (outF b' st rfl hb').mono ?_
          rintro _ _ ⟨rfl, h⟩
          exact h
  · obtain ⟨left, st, b', x7, x8, mk, hb', rfl⟩ := h
    simp_arith
    exact ⟨st, b', rfl, mk.sta, rfl, hb'⟩
end FW

/-! FwL: moves. -/
namespace FW
open PySem FK
/-- things put down from floor to floor -/
inductive Fall (rs : List Int) (t : Nat) : List Int → Nat → List Nat → List Int → Prop
  | stop {now : List Int} {a : Nat} (h : ∀ r, rs[a]? = some r → ((now.count (a : Int) : Nat) : Int) ≤ r) : Fall rs t now a [] now
  | step {now now' : List Int} {a d : Nat} {ds : List Nat} {r : Int} (hr : rs[a]? = some r) (hc : r < ((now.count (a : Int) : Nat) : Int)) (hd : now[d]? = some (a : Int)) (h0 : a = 0 → d ≠ t) (more : Fall rs t (now.set d ((a : Int) + 1)) (a + 1) ds now') : Fall rs t now a (d :: ds) now'
theorem Fall.len {rs : List Int} {t : Nat} {now now' : List Int} {a : Nat} {ds : List Nat} (h : Fall rs t now a ds now') : now'.length = now.length := by
  induction h with
  | stop _ => rfl
  | step _ _ _ _ _ ih => rw [ih, List.length_set]
theorem Fall.rng {rs : List Int} {t : Nat} {now now' : List Int} {a : Nat} {ds : List Nat} (h : Fall rs t now a ds now') (hn : ∀ x ∈ now, 0 ≤ x ∧ x ≤ (rs.length : Int)) : ∀ x ∈ now', 0 ≤ x ∧ x ≤ (rs.length : Int) := by
  induction h with
  | stop _ => exact hn
  | step hr _ _ _ _ ih =>
    refine ih fun x hx => ?_
    have := (List.getElem?_eq_some_iff.mp hr).1
    rcases List.mem_or_eq_of_mem_set hx with hx | rfl
    · exact hn x hx
    · omega
abbrev natsD (l : List Nat) : List FK.D := l.map fun (k : Nat) => PyData.int (k : Int)
abbrev moveD (w : Str) (t : Nat) (ds : List Nat) : FK.D := .tuple [.str w, .int (t : Int), .tuple (natsD ds)]
theorem str_eq {x y : Str} : oEq (.str x) (.str y) = some (.fz (.bool (x == y))) := eq_strs
theorem eq_tup0 (l : List Nat) : oEq (.tuple (natsD l)) (.tuple []) = some (.fz (.bool (decide (l = [])))) := nats_good.tup.oEq (by decide) l []
theorem eq_nil2 : oEq (.tuple []) (.tuple []) = some (.fz (.bool true)) := eq_tup0 []
theorem cntI {l : List Int} {a : Int} : oCount (.list (intsD l)) (.int a) = some (.fz (.int (l.count a : Nat))) := goodI.cntL (by decide) l a
theorem cntIT {l : List Int} {a : Int} : oCount (.tuple (intsD l)) (.int a) = some (.fz (.int (l.count a : Nat))) := goodI.cntT (by decide) l a
theorem strike_ok {M : Nat} {rs st : List Int} {t : Nat} (h : t < st.length) : wpF (e__law_done.f [.fz (hou M rs), .fz (tupI st), .fz (moveD "strike" t [])]) fun v _ => v = .fz (tupI (st.set t (rs.length : Int))) := by
  show wpF (fnOf 11 m__law_done _) _
  rw [wpF_fnOf]
  unfold m__law_done
  simp_arith [str_eq]
  rw [if_pos (by rfl)]
  simp_arith [putAt_ints h, eq_nil2]
abbrev doneR (M : Nat) (rs st : List Int) (t : Nat) (ds : List Nat) (now : List Int) (x8 x9 : Option Val) : Rho := [some (.fz (hou M rs)), some (.fz (tupI st)), some (.fz (moveD "ask" t ds)), some (.fz (.str "ask")), some (.fz (.int (t : Int))), some (.fz (.tuple (natsD ds))), some (.fz (.int (rs.length : Int))), some (.ow (intsD now)), x8, x9, none]
theorem ask_ok {M : Nat} {rs st now' : List Int} {t : Nat} {ds : List Nat} (h : t < st.length) (hF : Fall rs t (st.set t 0) 0 ds now') : wpF (e__law_done.f [.fz (hou M rs), .fz (tupI st), .fz (moveD "ask" t ds)]) fun v _ => v = .fz (tupI now') := by
  show wpF (fnOf 11 m__law_done _) _
  rw [wpF_fnOf]
  unfold m__law_done
  simp_arith [str_eq]
  rw [if_neg (by decide)]
  simp_arith [putAt_ints h]
  refine wp_enum (enc := fun (k : Nat) => PyData.int (k : Int)) (fun k rest ρ => ∃ now x8 x9, Fall rs t now k rest now' ∧ k + rest.length = ds.length ∧
    ρ = doneR M rs st t ds now x8 x9) (fun k d rest ρ hI => ?_) (fun k ρ hI => ?_) ⟨_, _, _, hF, by simp, rfl⟩
  · obtain ⟨now, x8, x9, f, hl, rfl⟩ := hI
    cases f with
    | @step _ _ _ _ _ r hr hc hd h0 more =>
      have hk : k < rs.length := (List.getElem?_eq_some_iff.mp hr).1
      have hdl : d < now.length := (List.getElem?_eq_some_iff.mp hd).1
      unfold b1__law_done
      simp_arith [cntI]
      rw [if_neg (by omega)]
      simp_arith [cntI, getAt_some hr]
      rw [if_neg (by omega)]
      simp_arith [getAt_some hd]
      rw [if_neg (by simp)]
      have fin : ∃ now2 x8 x9, Fall rs t now2 (k + 1) rest now' ∧ k + 1 + rest.length = ds.length ∧
          doneR M rs st t ds (now.set d ((k : Int) + 1)) (some (.fz (.int (k : Int)))) (some (.fz (.int (d : Int))))
          = doneR M rs st t ds now2 x8 x9 :=
        ⟨_, _, _, more, by rw [List.length_cons] at hl; omega, rfl⟩
      by_cases c0 : (k : Int) = 0
      · rw [if_pos c0, if_neg (by
          have := h0 (by omega)
          omega), putAt_ints hdl]
        exact fin
      · rw [if_neg c0, putAt_ints hdl]
        exact fin
  · obtain ⟨now, x8, x9, f, hl, rfl⟩ := hI
    cases f with
    | stop hs =>
      have hk : k = ds.length := by simpa using hl
      subst hk
      simp_arith [cntI]
      by_cases c : (rs.length : Int) ≤ (ds.length : Int)
      · rw [if_pos c]
        trivial
      · rw [if_neg c]
        have hl : ds.length < rs.length := by omega
        have hr := List.getElem?_eq_getElem hl
        simp_arith [getAt_some hr]
        rw [if_pos (hs _ hr)]
        trivial
theorem count_ex {l : List Int} {a : Int} (h : 0 < l.count a) : ∃ d : Nat, l[d]? = some a := by
  have hm := List.count_pos_iff.mp h
  obtain ⟨d, hd, e⟩ := List.mem_iff_getElem.mp hm
  exact ⟨d, by rw [List.getElem?_eq_getElem hd, e]⟩
theorem count_ex2 {l : List Int} {a : Int} {t : Nat} (ht : l[t]? = some a) (h : 1 < l.count a) : ∃ d : Nat, d ≠ t ∧ l[d]? = some a := by
  have hl : t < l.length := (List.getElem?_eq_some_iff.mp ht).1
  have hc := count_set ht (y := a + 1) a
  rw [if_pos rfl, if_neg (by omega)] at hc
  obtain ⟨d, hd⟩ := count_ex (l := l.set t (a + 1)) (a := a) (by omega)
  by_cases c : d = t
  · subst c
    rw [List.getElem?_set_self hl] at hd
    have : a + 1 = a := by simpa using hd
    omega
  · rw [List.getElem?_set_ne (Ne.symm c)] at hd
    exact ⟨d, c, hd⟩
abbrev drR (B : Option Val) (M : Nat) (rs st : List Int) (t : Nat) (way : Int) (ds : List Nat) (now : List Int) (x7 x8 x10 : Option Val) : Rho := [B, some (.fz (hou M rs)), some (.fz (tupI st)), some (.fz (.int (t : Int))), some (.fz (.int way)), some (.fz (.tuple (natsD ds))), some (.ow (intsD now)), x7, x8, none, x10]
/-- where a fall stands -/
structure Falls (M : Nat) (rs st : List Int) (t : Nat) (ds : List Nat) (now : List Int) : Prop where
  le : ds.length ≤ rs.length
  len : now.length = M
  go : ∀ tl now', Fall rs t now ds.length tl now' → Fall rs t (st.set t 0) 0 (ds ++ tl) now'
  t0 : ds = [] → now[t]? = some 0
  last : ∀ A d, ds = A ++ [d] → now[d]? = some (ds.length : Int)
theorem Falls.step {M : Nat} {rs st now : List Int} {t d : Nat} {ds : List Nat} {r : Int} (h : Falls M rs st t ds now) (hr : rs[ds.length]? = some r) (hc : r < ((now.count (ds.length : Int) : Nat) : Int)) (hd : now[d]? = some (ds.length : Int)) (h0 : ds.length = 0 → d ≠ t) : Falls M rs st t (ds ++ [d]) (now.set d ((ds.length : Int) + 1)) := by
  have hl : d < now.length := (List.getElem?_eq_some_iff.mp hd).1
  have hk : ds.length < rs.length := (List.getElem?_eq_some_iff.mp hr).1
  refine ⟨by rw [List.length_append]; exact hk, by rw [List.length_set, h.len], fun tl now' f => ?_, fun z => by simp at z, fun A e z => ?_⟩
  · rw [List.append_assoc]
    refine h.go _ _ (.step hr hc hd h0 ?_)
    rw [List.length_append] at f
    exact f
  · obtain ⟨_, z⟩ := List.append_inj' z rfl
    cases z
    rw [List.getElem?_set_self hl, List.length_append]
    rfl
theorem getAt_snoc {l : List Nat} {d : Nat} : getAt (-1) (natsD (l ++ [d])) = some (.int (d : Int)) := by
  unfold natsD
  rw [List.map_append]
  exact getAt_last
def thereL (M : Nat) (now : List Int) (t a : Nat) : List Nat := (List.range M).filter fun x => decide (now.getD x 0 = (a : Int) ∧ (0 < a ∨ x ≠ t))
theorem thereL_mem {M : Nat} {now : List Int} {t a d : Nat} (hl : now.length = M) : d ∈ thereL M now t a ↔ now[d]? = some (a : Int) ∧ (0 < a ∨ d ≠ t) := by
  unfold thereL
  rw [List.mem_filter, List.mem_range, decide_eq_true_iff]
  constructor
  · rintro ⟨h1, h2, h3⟩
    rw [List.getD_eq_getElem?_getD, List.getElem?_eq_getElem (by omega)] at h2
    exact ⟨by rw [List.getElem?_eq_getElem (by omega)]; simpa using h2, h3⟩
  · rintro ⟨h1, h2⟩
    exact ⟨by rw [← hl]; exact (List.getElem?_eq_some_iff.mp h1).1, by rw [List.getD_eq_getElem?_getD, h1]; rfl, h2⟩
theorem nats_sel (p : Nat → Prop) [DecidablePred p] (L : List Nat) : (L.flatMap fun a => if p a then [PyData.int (a : Int)] else []) = natsD (L.filter fun a => decide (p a)) := flat_sel _ p L
def drTail : MS := (sPutX [(.tg (.nm 5)), (.ix 6 (mV 10))] (mTup [(false, (mBin oAdd (.nm 5) (.ex (mTup [(false, (mV 10))])))), (false, (mBin oAdd (.nm 7) (.ex (mC (.int 1)))))]))
theorem drawn_body {b : Bag} (hb : b.cells.length ≤ 1000) {M : Nat} {rs st now : List Int} {t : Nat} {way r : Int} {ds : List Nat} {x7 x8 x10 : Option Val} (hM : M ≤ 1000) (F : Falls M rs st t ds now) (h1 : rs.length ≤ 1000) (hr0 : 1 ≤ r) (hr : rs[ds.length]? = some r) (hc : r < ((now.count (ds.length : Int) : Nat) : Int)) :
    wp b1__law_drawn_move (drR (some (.ow b.d)) M rs st t way ds now x7 x8 x10) fun f ρ => f = .nx ∧ ∃ d, ∃ b' : Bag, ∃ x7 x8 x10, now[d]? = some (ds.length : Int) ∧ (ds.length = 0 → d ≠ t) ∧ b'.cells.length ≤ 1000 ∧ ρ = drR (some (.ow b'.d)) M rs st t way (ds ++ [d]) (now.set d ((ds.length : Int) + 1)) x7 x8 x10 := by
  have hdl := F.le
  have hnl := F.len
  have ex : thereL M now t ds.length ≠ [] := fun z => by
    have no : ∀ d, ¬ d ∈ thereL M now t ds.length := fun d hd => by rw [z] at hd; cases hd
    by_cases c0 : ds.length = 0
    · have ht := F.t0 (List.length_eq_zero_iff.mp c0)
      obtain ⟨d, n1, n2⟩ := count_ex2 (a := (ds.length : Int)) (by rw [ht, c0]; rfl) (by omega)
      exact no d ((thereL_mem hnl).mpr ⟨n2, .inr n1⟩)
    · obtain ⟨d, n2⟩ := count_ex (l := now) (a := (ds.length : Int)) (by omega)
      exact no d ((thereL_mem hnl).mpr ⟨n2, .inl (by omega)⟩)
  have lL : (thereL M now t ds.length).length ≤ 1000 := by
    unfold thereL
    refine Nat.le_trans (List.length_filter_le _ _) ?_
    rw [List.length_range]; exact hM
  unfold b1__law_drawn_move
  rw [show (sPutX [(.tg (.nm 5)), (.ix 6 (mV 10))] (mTup [(false, (mBin oAdd (.nm 5) (.ex (mTup [(false, (mV 10))])))), (false, (mBin oAdd (.nm 7) (.ex (mC (.int 1)))))])) = drTail from rfl]
  simp_arith [rngOf1 (show M ≤ 1000000 by omega)]
  refine wp_compP (enc := fun (k : Nat) => PyData.int (k : Int)) (g := fun x => if now.getD x 0 = (ds.length : Int) ∧ (0 < ds.length ∨ x ≠ t) then [.int (x : Int)] else []) (fun x hx => ?_) ?_
  · have hx := List.mem_range.mp hx
    simp_arith [getAt_ints (w := now) (k := x) rfl (by omega)]
    by_cases c1 : now.getD x 0 = (ds.length : Int)
    · rw [if_pos c1]
      by_cases c2 : 0 < (ds.length : Int)
      · rw [if_pos c2, if_pos ⟨c1, .inl (by omega)⟩]
      · rw [if_neg c2]
        by_cases c3 : x = t
        · subst c3
          rw [if_neg (by simp), if_neg (fun z => z.2.elim (fun z => c2 (by omega)) fun z => z rfl)]
        · rw [if_pos (by simp; omega), if_pos ⟨c1, .inr c3⟩]
    · rw [if_neg c1, if_neg (fun z => c1 z.1)]
  · rw [nats_sel]
    have eL : ((List.range M).filter fun x => decide (now.getD x 0 = (ds.length : Int) ∧ (0 < ds.length ∨ x ≠ t))) = thereL M now t ds.length := rfl
    rw [eL]
    have mem : ∀ d ∈ thereL M now t ds.length, now[d]? = some (ds.length : Int) ∧ (ds.length = 0 → d ≠ t) := fun d hd => by
      obtain ⟨n1, n2⟩ := (thereL_mem hnl).mp hd
      exact ⟨n1, fun z => n2.resolve_left (by omega)⟩
    generalize hLL : thereL M now t ds.length = L at ex lL mem
    -- the end, for any that is chosen
    have fin : ∀ (d : Nat) (b3 : Bag) (x8 : Option Val), now[d]? = some (ds.length : Int) → (ds.length = 0 → d ≠ t) → b3.cells.length ≤ 1000 →
        wp drTail (drR (some (.ow b3.d)) M rs st t way ds now (some (.fz (.int (ds.length : Int)))) x8 (some (.fz (.int (d : Int)))))
        fun f ρ => f = .nx ∧ ∃ d, ∃ b' : Bag, ∃ x7 x8 x10, now[d]? = some (ds.length : Int) ∧ (ds.length = 0 → d ≠ t) ∧ b'.cells.length ≤ 1000 ∧ ρ = drR (some (.ow b'.d)) M rs st t way (ds ++ [d]) (now.set d ((ds.length : Int) + 1)) x7 x8 x10 := fun d b3 x8 n1 n2 hb3 => by
      have hdl2 : d < now.length := (List.getElem?_eq_some_iff.mp n1).1
      have hs : ds.length + 1 ≤ 16777216 := by omega
      unfold drTail
      simp_arith [putAt_ints hdl2, hs]
      have en : natsD ds ++ [PyData.int (d : Int)] = natsD (ds ++ [d]) := by
        unfold natsD
        rw [List.map_append]
        rfl
      rw [en]
      exact ⟨d, b3, _, _, _, n1, n2, hb3, rfl⟩
    simp_arith
    by_cases w1 : way = 1
    · rw [if_pos w1]
      obtain ⟨A, d, rfl⟩ : ∃ A d, L = A ++ [d] := ⟨L.dropLast, L.getLast ex, (List.dropLast_concat_getLast ex).symm⟩
      simp_arith [getAt_snoc]
      obtain ⟨n1, n2⟩ := mem d (by simp)
      exact fin d b _ n1 n2 hb
    · rw [if_neg w1]
      have oneG : ∀ Qx : Val → Option (List FK.D) → Prop, (∀ d ∈ L, ∀ b3 : Bag, b3.cells.length ≤ 1000 → Qx (.fz (.int (d : Int))) (some b3.d)) → wpF (e__law_one.f [.ow b.d, .fz (.list (natsD L))]) Qx := fun Qx hQ => by
        refine (one_ok b (natsD L) hb (by simp [ex]) (by simp; omega)).mono ?_
        rintro _ _ ⟨x, b3, hx, rfl, rfl, hb3⟩
        obtain ⟨d, hd, rfl⟩ := List.mem_map.mp hx
        exact hQ d hd b3 (by rw [hb3]; exact hb)
      by_cases w2 : way = 2
      · rw [if_pos w2]
        by_cases c0 : 0 < (ds.length : Int)
        · rw [if_pos c0]
          have hne : ds ≠ [] := fun z => by rw [z] at c0; simp at c0
          obtain ⟨A, d, e⟩ : ∃ A d, ds = A ++ [d] := ⟨ds.dropLast, ds.getLast hne, (List.dropLast_concat_getLast hne).symm⟩
          have eg : getAt (-1) (natsD ds) = some (.int (d : Int)) := by rw [e]; exact getAt_snoc
          simp_arith [eg]
          exact fin d b _ (F.last A d e) (fun z => absurd c0 (by omega)) hb
        · rw [if_neg c0]
          refine ⟨rfl, oneG _ fun d hd b3 hb3 => ?_⟩
          simp_arith
          exact fin d b3 _ (mem d hd).1 (mem d hd).2 hb3
      · rw [if_neg w2]
        refine ⟨rfl, oneG _ fun d hd b3 hb3 => ?_⟩
        simp_arith
        exact fin d b3 _ (mem d hd).1 (mem d hd).2 hb3
theorem drawn_ok {b : Bag} (hb : b.cells.length ≤ 1000) {M : Nat} {rs st : List Int} {t : Nat} {way : Int} (hM : M ≤ 1000) (h1 : rs.length ≤ 1000) (hr : ∀ x ∈ rs, 1 ≤ x) (hlen : st.length = M) (ht : t < M) :
    wpF (e__law_drawn_move.f [.ow b.d, .fz (hou M rs), .fz (tupI st), .fz (.int (t : Int)), .fz (.int way)]) fun v o => ∃ ds now', ∃ b' : Bag, v = .fz (moveD "ask" t ds) ∧ Fall rs t (st.set t 0) 0 ds now' ∧ o = some b'.d ∧ b'.cells.length ≤ 1000 := by
  show wpF (fnOf 11 m__law_drawn_move _) _
  rw [wpF_fnOf]
  unfold m__law_drawn_move
  simp_arith [putAt_ints (show t < st.length by omega)]
  refine wp.mono (Q := fun f ρ => f = .nx ∧ ∃ ds now', ∃ b' : Bag, ∃ x7 x8 x10, Fall rs t (st.set t 0) 0 ds now' ∧ b'.cells.length ≤ 1000 ∧ ρ = drR (some (.ow b'.d)) M rs st t way ds now' x7 x8 x10)
    (wp_while (fun m ρ => ∃ ds now, ∃ b' : Bag, ∃ x7 x8 x10, m = rs.length - ds.length ∧ Falls M rs st t ds now ∧ b'.cells.length ≤ 1000 ∧ ρ = drR (some (.ow b'.d)) M rs st t way ds now x7 x8 x10) (fun m ρ h => ?_) mostTurns rs.length _ (by show rs.length < 1000000; omega)
      ⟨[], st.set t 0, b, none, none, none, rfl, ⟨Nat.zero_le _, by rw [List.length_set, hlen], fun tl now' f => f, fun _ => by rw [List.getElem?_set_self (by omega)], fun A d z => by simp at z⟩, hb, rfl⟩) fun f ρ h => ?_
  · obtain ⟨ds, now, b', x7, x8, x10, rfl, F, hb', rfl⟩ := h
    have hdl := F.le
    simp_arith [cntI]
    by_cases c1 : (ds.length : Int) < (rs.length : Int)
    · rw [if_pos c1]
      have hk : ds.length < rs.length := by omega
      have hrk := List.getElem?_eq_getElem hk
      simp_arith [getAt_some hrk]
      refine ⟨fun hc => ?_, fun hc => ?_⟩
      · have hc := hc
        refine (drawn_body hb' hM F h1 (hr _ (List.getElem_mem hk)) hrk hc).mono ?_
        rintro _ _ ⟨rfl, d, b3, y7, y8, y10, n1, n2, hb3, rfl⟩
        refine ⟨rs.length - (ds ++ [d]).length, by rw [List.length_append, List.length_singleton]; omega, ds ++ [d], _, b3, y7, y8, y10, rfl, F.step hrk hc n1 n2, hb3, rfl⟩
      · refine ⟨ds, now, b', x7, x8, x10, ?_, hb', rfl⟩
        have := F.go [] now (.stop fun r e => by
          rw [hrk] at e
          cases e
          have := of_decide_eq_false hc
          omega)
        rwa [List.append_nil] at this
    · rw [if_neg c1]
      refine ⟨(fun z => by cases z), fun _ => ⟨ds, now, b', x7, x8, x10, ?_, hb', rfl⟩⟩
      have := F.go [] now (.stop fun r e => by
        have := (List.getElem?_eq_some_iff.mp e).1
        omega)
      rwa [List.append_nil] at this
  · obtain ⟨rfl, ds, now', b', x7, x8, x10, hF, hb', rfl⟩ := h
    simp_arith
    exact ⟨ds, now', b', rfl, hF, rfl, hb'⟩
end FW

/-! FwM: starts, runs. -/
namespace FW
open PySem FK
def placesK (rs : List Int) (k : Nat) : List (List Nat) := (rs.zipIdx k).map fun q => List.replicate q.1.toNat q.2
theorem places_cons (r : Int) (rs : List Int) (k : Nat) : placesK (r :: rs) k = List.replicate r.toNat k :: placesK rs (k + 1) := rfl
theorem places_count : ∀ (rs : List Int) (k f : Nat), (placesK rs k).flatten.count f = if k ≤ f then (rs.getD (f - k) 0).toNat else 0
  | [], k, f => by simp [placesK]
  | r :: rs, k, f => by
    rw [places_cons, List.flatten_cons, List.count_append, places_count rs (k + 1) f, List.count_replicate]
    by_cases c1 : k = f
    · subst c1
      simp
      intro h
      omega
    · by_cases c2 : k ≤ f
      · have e : f - k = (f - (k + 1)) + 1 := by omega
        rw [if_neg (by simpa using c1), if_pos (by omega), if_pos c2, e]
        simp
      · rw [if_neg (by simpa using c1), if_neg (by omega), if_neg c2]
theorem places_len : ∀ (rs : List Int) (k : Nat), (∀ x ∈ rs, 0 ≤ x) → ((placesK rs k).flatten.length : Int) = rs.sum
  | [], k, _ => by simp [placesK]
  | r :: rs, k, h => by
    have h0 := h r List.mem_cons_self
    rw [places_cons, List.flatten_cons, List.length_append, List.length_replicate, List.sum_cons]
    have := places_len rs (k + 1) fun x hx => h x (List.mem_cons_of_mem _ hx)
    push_cast
    omega
theorem places_mem : ∀ (rs : List Int) (k : Nat) {f : Nat}, f ∈ (placesK rs k).flatten → f < k + rs.length
  | [], k, f, h => by simp [placesK] at h
  | r :: rs, k, f, h => by
    rw [places_cons, List.flatten_cons] at h
    rcases List.mem_append.mp h with h | h
    · have := (List.mem_replicate.mp h).2
      rw [List.length_cons]; omega
    · have := places_mem rs (k + 1) h
      rw [List.length_cons]; omega
theorem cast_count (l : List Nat) (f : Nat) : (l.map fun (k : Nat) => (k : Int)).count (f : Int) = l.count f := by
  induction l with
  | nil => rfl
  | cons a l ih =>
    rw [List.map_cons, List.count_cons, List.count_cons, ih]
    by_cases c : a = f
    · subst c; simp
    · have : ¬ (a : Int) = (f : Int) := by omega
      simp [c, this]
theorem full_ok {b : Bag} (hb : b.cells.length ≤ 1000) {M : Nat} {rs : List Int} (hM : M ≤ 1000) (h1 : rs.length ≤ 1000) (hr : ∀ x ∈ rs, 0 ≤ x ∧ x ≤ 1000) (hs : rs.sum ≤ (M : Int)) : wpF (e__law_full_state.f [.ow b.d, .fz (hou M rs)]) fun v o => ∃ st, ∃ b' : Bag, v = .fz (tupI st) ∧ Sta M rs st ∧ o = some b'.d ∧ b'.cells.length ≤ 1000 := by
  have hl := places_len rs 0 fun x hx => (hr x hx).1
  show wpF (fnOf 5 m__law_full_state _) _
  rw [wpF_fnOf]
  unfold m__law_full_state
  simp_arith
  refine wp_compE (ea := PyData.int) (fun r k => [PyData.list (natsD (List.replicate r.toNat k))]) (fun r k hq => ?_) ?_
  · have hm : r ∈ rs := by
      have := List.mem_zipIdx_iff_getElem?.mp hq
      exact List.mem_of_getElem? (by simpa using this)
    have hb1 := hr r hm
    have hsm : (small r && decide (1 * r.toNat ≤ 16777216)) = true := by
      rw [small_i (by omega), decide_eq_true (by omega)]
      rfl
    simp_arith [hsm]
    rw [rep_one]
    unfold natsD
    rw [List.map_replicate]
  · simp_arith
    have e1 : (rs.zipIdx.flatMap fun q => [PyData.list (natsD (List.replicate q.1.toNat q.2))]) = (placesK rs 0).map fun l => PyData.list (natsD l) := by
      rw [flat1]
      unfold placesK
      rw [List.map_map]
      rfl
    rw [e1]
    refine ⟨rfl, (flat_ok (fun l : List Nat => PyData.list (natsD l)) (fun (k : Nat) => PyData.int (k : Int)) (fun _ => rfl) (placesK rs 0) 1000 (by omega) (by omega) rfl).mono ?_⟩
    rintro _ _ rfl
    have hsm : (small ((M : Int) - ((placesK rs 0).flatten.length : Int)) && decide (1 * ((M : Int) - ((placesK rs 0).flatten.length : Int)).toNat ≤ 16777216)) = true := by
      rw [small_i (by omega), decide_eq_true (by omega)]
      rfl
    have hcat : (placesK rs 0).flatten.length + ((List.replicate ((M : Int) - ((placesK rs 0).flatten.length : Int)).toNat [PyData.int (rs.length : Int)]).flatten).length ≤ 16777216 := by
      rw [rep_one, List.length_replicate]; omega
    simp_arith [hsm, hcat]
    rw [rep_one]
    have e2 : ((placesK rs 0).flatten.map fun (k : Nat) => PyData.int (k : Int)) ++ List.replicate ((M : Int) - ((placesK rs 0).flatten.length : Int)).toNat (PyData.int (rs.length : Int)) = ((placesK rs 0).flatten ++ List.replicate (M - (placesK rs 0).flatten.length) rs.length).map fun (k : Nat) => PyData.int (k : Int) := by
      rw [List.map_append, List.map_replicate, show ((M : Int) - ((placesK rs 0).flatten.length : Int)).toNat = M - (placesK rs 0).flatten.length by omega]
    rw [e2]
    refine ⟨rfl, (mixedP hb (fun (k : Nat) => PyData.int (k : Int)) (l := (placesK rs 0).flatten ++ List.replicate (M - (placesK rs 0).flatten.length) rs.length) (by rw [List.length_append, List.length_replicate]; omega) rfl).mono ?_⟩
    rintro _ _ ⟨l', b2, rfl, pm, rfl, hb2⟩
    simp_arith
    refine ⟨l'.map fun (k : Nat) => (k : Int), b2, ?_, ⟨?_, fun x hx => ?_, fun f r e => ?_⟩, rfl, hb2⟩
    · unfold tupI intsD
      rw [List.map_map]
      rfl
    · rw [List.length_map, pm.length_eq, List.length_append, List.length_replicate]; omega
    · obtain ⟨k, hk, rfl⟩ := List.mem_map.mp hx
      rcases List.mem_append.mp (pm.mem_iff.mp hk) with hk | hk
      · have := places_mem rs 0 hk; omega
      · have := (List.mem_replicate.mp hk).2; omega
    · have hf : f < rs.length := (List.getElem?_eq_some_iff.mp e).1
      rw [cast_count, pm.count_eq, List.count_append, places_count, List.count_replicate, if_pos (Nat.zero_le _), if_neg (by simp; omega), Nat.sub_zero, List.getD_eq_getElem?_getD, e]
      have := (hr r (List.mem_of_getElem? e)).1
      show ((r.toNat + 0 : Nat) : Int) ≤ r
      omega
/-- a start: a state; none -/
def stD : Option (List Int) → FK.D
  | none => .none
  | some st => tupI st
structure Sta0 (M : Nat) (rs : List Int) (s : Option (List Int)) : Prop where
  st : ∀ st, s = some st → Sta M rs st
  no : s = none → rs.sum ≤ (M : Int)
theorem out_sta {M : Nat} {rs : List Int} (hr : ∀ x ∈ rs, 0 ≤ x) : Sta M rs (List.replicate M (rs.length : Int)) := (mak0 (l := []) hr (fun _ h => by cases h) .nil).sta
theorem start_ok {b : Bag} (hb : b.cells.length ≤ 1000) {M : Nat} {rs : List Int} (hM : M ≤ 1000) (h1 : rs.length ≤ 1000) (hr : ∀ x ∈ rs, 0 ≤ x) : wpF (e__law_start.f [.ow b.d, .fz (hou M rs)]) fun v o => ∃ s, ∃ b' : Bag, v = .fz (stD s) ∧ Sta0 M rs s ∧ o = some b'.d ∧ b'.cells.length ≤ 1000 := by
  show wpF (fnOf 3 m__law_start _) _
  rw [wpF_fnOf]
  unfold m__law_start
  have hsm : 0 ≤ (M : Int) ∧ (M : Int) ≤ 1000 ∧ 1 ≤ 1000 := by omega
  simp_arith [hsm]
  refine ⟨rfl, (state_ok hb hM h1 hr).mono ?_⟩
  rintro _ _ ⟨st1, b1, rfl, s1, rfl, hb1⟩
  simp_arith
  refine ⟨rfl, (state_ok hb1 hM h1 hr).mono ?_⟩
  rintro _ _ ⟨st2, b2, rfl, s2, rfl, hb2⟩
  simp_arith [sum_T]
  have go : ∀ (b : Bool) (Qx : Val → Option (List FK.D) → Prop), (b = true → rs.sum ≤ (M : Int)) → (∀ s, ∀ b' : Bag, Sta0 M rs s → b'.cells.length ≤ 1000 → Qx (.fz (stD s)) (some b'.d)) →
      wpV (oMul (.list [.none]) (.int (if b = true then 1 else 0))) (fun v => wpV (oAdd (.list [.tuple (List.replicate (M : Int).toNat [PyData.int (rs.length : Int)]).flatten, tupI st1, tupI st2]) v.data) fun u => 2 = e__law_one.np ∧ wpF (e__law_one.f [.ow b2.d, .fz u.data]) Qx) := fun c Qx hc hQ => by
    have e1 : ∃ k : Nat, k ≤ 1 ∧ (k = 1 → c = true) ∧ oMul (.list [.none]) (.int (if c = true then 1 else 0)) = some (.ow (List.replicate k .none)) := by
      cases c
      · exact ⟨0, by omega, by omega, rfl⟩
      · exact ⟨1, by omega, fun _ => rfl, rfl⟩
    obtain ⟨k, k1, k2, e1⟩ := e1
    rw [e1]
    show wpV (oAdd (.list [.tuple (List.replicate (M : Int).toNat [PyData.int (rs.length : Int)]).flatten, tupI st1, tupI st2]) (.list (List.replicate k .none))) _
    rw [add_list, if_pos (by simp; omega)]
    refine ⟨rfl, (one_ok b2 _ hb2 (by simp) (by simp; omega)).mono ?_⟩
    rintro _ _ ⟨x, b3, hx, rfl, rfl, hb3⟩
    have hb3' : b3.cells.length ≤ 1000 := by rw [hb3]; exact hb2
    rcases List.mem_append.mp hx with hx | hx
    · rcases List.mem_cons.mp hx with rfl | hx
      · have e : PyData.tuple (List.replicate (M : Int).toNat [PyData.int (rs.length : Int)]).flatten = stD (some (List.replicate M (rs.length : Int))) := by
          rw [rep_one, Int.toNat_natCast]
          show _ = PyData.tuple ((List.replicate M (rs.length : Int)).map PyData.int)
          rw [List.map_replicate]
        rw [e]
        exact hQ _ b3 ⟨(fun st z => by cases z; exact out_sta hr), (fun z => by cases z)⟩ hb3'
      · rcases List.mem_cons.mp hx with rfl | hx
        · exact hQ (some st1) b3 ⟨(fun st z => by cases z; exact s1), (fun z => by cases z)⟩ hb3'
        · rw [List.mem_singleton.mp hx]
          exact hQ (some st2) b3 ⟨(fun st z => by cases z; exact s2), (fun z => by cases z)⟩ hb3'
    · obtain ⟨h1, h2⟩ := List.mem_replicate.mp hx
      rw [h2]
      exact hQ none b3 ⟨(fun st z => by cases z), fun _ => hc (k2 (by omega))⟩ hb3'
  rw [show oInt [PyData.bool (decide (rs.sum ≤ (M : Int)))] = some (.fz (.int (if decide (rs.sum ≤ (M : Int)) = true then 1 else 0))) from rfl]
  exact go (decide (rs.sum ≤ (M : Int))) (fun v o => match o with
    | some bs' => ∃ s, ∃ b' : Bag, v = .fz (stD s) ∧ Sta0 M rs s ∧ some bs' = some b'.d ∧ b'.cells.length ≤ 1000
    | none => False) of_decide_eq_true fun s b' hs hb' => ⟨s, b', rfl, hs, rfl, hb'⟩
/-- an entry of a log -/
structure Ent where
  ask : Bool
  t : Nat
  f : Int
def Ent.w (e : Ent) : Str := if e.ask then "ask" else "strike"
abbrev Ent.d (e : Ent) : FK.D := .tuple [.str e.w, .int (e.t : Int), .int e.f]
/-- what one move does -/
inductive Move (rs : List Int) : List Int → Ent → List Int → Prop
  | strike {st : List Int} {t : Nat} {f : Int} (h : st[t]? = some f) : Move rs st ⟨false, t, f⟩ (st.set t (rs.length : Int))
  | ask {st now' : List Int} {t : Nat} {f : Int} {ds : List Nat} (h : st[t]? = some f) (hF : Fall rs t (st.set t 0) 0 ds now') : Move rs st ⟨true, t, f⟩ now'
inductive Moves (rs : List Int) : List Int → List Ent → List Int → Prop
  | nil {st : List Int} : Moves rs st [] st
  | snoc {st st' st'' : List Int} {es : List Ent} {e : Ent} (h : Moves rs st es st') (m : Move rs st' e st'') : Moves rs st (es ++ [e]) st''
theorem Move.len {rs st st' : List Int} {e : Ent} (h : Move rs st e st') : st'.length = st.length := by
  cases h with
  | strike h => rw [List.length_set]
  | ask h f => rw [f.len, List.length_set]
theorem Move.rng {rs st st' : List Int} {e : Ent} (h : Move rs st e st') (hn : ∀ x ∈ st, 0 ≤ x ∧ x ≤ (rs.length : Int)) : ∀ x ∈ st', 0 ≤ x ∧ x ≤ (rs.length : Int) := by
  cases h with
  | strike h =>
    intro x hx
    rcases List.mem_or_eq_of_mem_set hx with hx | rfl
    · exact hn x hx
    · omega
  | ask h f =>
    refine f.rng fun x hx => ?_
    rcases List.mem_or_eq_of_mem_set hx with hx | rfl
    · exact hn x hx
    · omega
theorem Moves.len {rs st st' : List Int} {es : List Ent} (h : Moves rs st es st') : st'.length = st.length := by
  induction h with
  | nil => rfl
  | snoc _ m ih => rw [m.len, ih]
theorem Moves.rng {rs st st' : List Int} {es : List Ent} (h : Moves rs st es st') (hn : ∀ x ∈ st, 0 ≤ x ∧ x ≤ (rs.length : Int)) : ∀ x ∈ st', 0 ≤ x ∧ x ≤ (rs.length : Int) := by
  induction h with
  | nil => exact hn
  | snoc _ m ih => exact m.rng (ih)
/-- an entry that a log may hold -/
structure EntOk (M : Nat) (rs : List Int) (e : Ent) : Prop where
  t : e.t < M
  f : 0 ≤ e.f ∧ e.f ≤ (rs.length : Int)
abbrev runR (B : Option Val) (M : Nat) (rs st : List Int) (many strikes : Int) (run log states : List FK.D) (way : Int) (x9 x10 x11 x12 : Option Val) : Rho :=
  [B, some (.fz (hou M rs)), some (.fz (tupI st)), some (.fz (.int many)), some (.fz (.int strikes)), some (.ow run), some (.ow log), some (.ow states), some (.fz (.int way)), x9, x10, x11, x12]
/-- the favoured things: a list, frozen or not -/
def Fav (fav : List Nat) (x9 : Option Val) : Prop := x9 = some (.ow (natsD fav)) ∨ x9 = some (.fz (.list (natsD fav)))
def runTail : MS := (sSeq (sApp 5 (mV 12))
  (sSeq (sApp 6 (mTup [(false, (mBin oIx (.nm 12) (.ex (mC (.int 0))))), (false, (mV 11)), (false, (mBin oIx (.ex (mBin oIx (.nm 7) (.ex (mUn oNeg (.ex (mC (.int 1))))))) (.nm 11)))]))
  (sApp 7 (mCall e__law_done [(false, (mV 1)), (false, (mBin oIx (.nm 7) (.ex (mUn oNeg (.ex (mC (.int 1))))))), (false, (mV 12))]))))
section
variable {M : Nat} {rs st cur : List Int} {many strikes way : Int} {run log states : List FK.D} {fav : List Nat} {x9 x10 x11 x12 : Option Val}
theorem run_tail {B : Option Val} {e : Ent} {cur' : List Int} {ds : List Nat} (hm : Move rs cur e cur') (hf : cur[e.t]? = some e.f) (hd : wpF (e__law_done.f [.fz (hou M rs), .fz (tupI cur), .fz (moveD e.w e.t ds)]) fun v _ => v = .fz (tupI cur')) (l1 : run.length < 16777216) (l2 : log.length < 16777216) (l3 : states.length + 1 < 16777216) :
    wp runTail (runR B M rs st many strikes run log (states ++ [tupI cur]) way x9 x10 (some (.fz (.int (e.t : Int)))) (some (.fz (moveD e.w e.t ds)))) fun f ρ => f = .nx ∧
      ρ = runR B M rs st many strikes (run ++ [moveD e.w e.t ds]) (log ++ [e.d]) (states ++ [tupI cur] ++ [tupI cur']) way x9 x10 (some (.fz (.int (e.t : Int)))) (some (.fz (moveD e.w e.t ds))) := by
  unfold runTail
  have l4 : (states ++ [tupI cur]).length < 16777216 := by rw [List.length_append]; exact l3
  simp_arith [l1, l2, getAt_last, getAt_some hf]
  refine ⟨rfl, hd.mono ?_⟩
  rintro _ _ rfl
  simp_arith [l4, List.length_append, l3]
theorem run_body {b : Bag} (hb : b.cells.length ≤ 1000) (hM : M ≤ 1000) (h1 : rs.length ≤ 1000) (hr : ∀ x ∈ rs, 1 ≤ x) (hM0 : 0 < M) (hlen : cur.length = M)
    (hf : fav ≠ []) (hfm : ∀ t ∈ fav, t < M) (hfl : fav.length ≤ 1000) (hx9 : Fav fav x9) (hst : 0 ≤ strikes ∧ strikes ≤ 1000) (l1 : run.length < 16777216) (l2 : log.length < 16777216) (l3 : states.length + 1 < 16777216) :
    wp b1__law_run (runR (some (.ow b.d)) M rs st many strikes run log (states ++ [tupI cur]) way x9 x10 x11 x12) fun f ρ => f = .nx ∧ ∃ e cur', ∃ b' : Bag, ∃ mv x9 x11 x12, Move rs cur e cur' ∧ e.t < M ∧ Fav fav x9 ∧ b'.cells.length ≤ 1000 ∧
      ρ = runR (some (.ow b'.d)) M rs st many strikes (run ++ [mv]) (log ++ [e.d]) (states ++ [tupI cur] ++ [tupI cur']) way x9 x10 x11 x12 := by
  -- the rest, once the thing and the move stand
  have fin : ∀ (e : Ent) (cur' : List Int) (ds : List Nat) (b' : Bag) (y9 : Option Val), Move rs cur e cur' → cur[e.t]? = some e.f → e.t < M → Fav fav y9 → b'.cells.length ≤ 1000 → wpF (e__law_done.f [.fz (hou M rs), .fz (tupI cur), .fz (moveD e.w e.t ds)]) (fun v _ => v = .fz (tupI cur')) →
      wp runTail (runR (some (.ow b'.d)) M rs st many strikes run log (states ++ [tupI cur]) way y9 x10 (some (.fz (.int (e.t : Int)))) (some (.fz (moveD e.w e.t ds)))) fun f ρ => f = .nx ∧ ∃ e cur', ∃ b' : Bag, ∃ mv x9 x11 x12, Move rs cur e cur' ∧ e.t < M ∧ Fav fav x9 ∧ b'.cells.length ≤ 1000 ∧
      ρ = runR (some (.ow b'.d)) M rs st many strikes (run ++ [mv]) (log ++ [e.d]) (states ++ [tupI cur] ++ [tupI cur']) way x9 x10 x11 x12 := fun e cur' ds b' y9 hm hf ht hy hb' hd => by
    refine (run_tail hm hf hd l1 l2 l3).mono ?_
    rintro _ _ ⟨rfl, rfl⟩
    exact ⟨rfl, e, cur', b', _, y9, _, _, hm, ht, hy, hb', rfl⟩
  -- the move
  have mv : ∀ (t : Nat) (b' : Bag) (y9 : Option Val), t < M → Fav fav y9 → b'.cells.length ≤ 1000 →
      wp (sSeq (sSet 12 (mTup [(false, (mC (.str "strike"))), (false, (mV 11)), (false, (mTup []))])) (sSeq (sIf (mOr (asT (mBin oEq (.nm 4) (.ex (mC (.int 0))))) (asT (mBin oGt (.ex (mCallR e__law_take 0 [(false, (mV 4))])) (.ex (mC (.int 0))))))
  (sSet 12 (mCallR e__law_drawn_move 0 [(false, (mV 1)), (false, (mBin oIx (.nm 7) (.ex (mUn oNeg (.ex (mC (.int 1))))))), (false, (mV 11)), (false, (mV 8))]))
  sNx) runTail)) (runR (some (.ow b'.d)) M rs st many strikes run log (states ++ [tupI cur]) way y9 x10 (some (.fz (.int (t : Int)))) x12) fun f ρ => f = .nx ∧ ∃ e cur', ∃ b' : Bag, ∃ mv x9 x11 x12, Move rs cur e cur' ∧ e.t < M ∧ Fav fav x9 ∧ b'.cells.length ≤ 1000 ∧
      ρ = runR (some (.ow b'.d)) M rs st many strikes (run ++ [mv]) (log ++ [e.d]) (states ++ [tupI cur] ++ [tupI cur']) way x9 x10 x11 x12 := fun t b' y9 ht hy hb' => by
    have htl : t < cur.length := by omega
    have hc := List.getElem?_eq_getElem htl
    have ask : ∀ b2 : Bag, b2.cells.length ≤ 1000 → wpF (e__law_drawn_move.f [.ow b2.d, .fz (hou M rs), .fz (tupI cur), .fz (.int (t : Int)), .fz (.int way)]) fun v o => match o with
        | some bs' => wp runTail [some (.ow bs'), some (.fz (hou M rs)), some (.fz (tupI st)), some (.fz (.int many)), some (.fz (.int strikes)), some (.ow run), some (.ow log), some (.ow (states ++ [tupI cur])), some (.fz (.int way)), y9, x10, some (.fz (.int (t : Int))), some v] fun f ρ => f = .nx ∧ ∃ e cur', ∃ b' : Bag, ∃ mv x9 x11 x12, Move rs cur e cur' ∧ e.t < M ∧ Fav fav x9 ∧ b'.cells.length ≤ 1000 ∧
      ρ = runR (some (.ow b'.d)) M rs st many strikes (run ++ [mv]) (log ++ [e.d]) (states ++ [tupI cur] ++ [tupI cur']) way x9 x10 x11 x12
        | none => False := fun b2 hb2 => by
      refine (drawn_ok hb2 hM h1 hr hlen ht).mono ?_
      rintro _ _ ⟨ds, now', b3, rfl, hF, rfl, hb3⟩
      exact fin ⟨true, t, cur[t]⟩ now' ds b3 y9 (.ask hc hF) hc ht hy hb3 (ask_ok htl hF)
    simp_arith
    by_cases c : strikes = 0
    · rw [if_pos c]
      simp_arith [getAt_last]
      exact ⟨rfl, ask b' hb'⟩
    · rw [if_neg c]
      refine ⟨rfl, (tk hb' (n := strikes) (by omega) (by omega)).mono ?_⟩
      rintro _ _ ⟨q, b2, q0, q1, rfl, rfl, hb2⟩
      simp_arith
      by_cases c2 : 0 < q
      · rw [if_pos c2]
        simp_arith [getAt_last]
        exact ⟨rfl, ask b2 hb2⟩
      · rw [if_neg c2]
        exact fin ⟨false, t, cur[t]⟩ _ [] b2 y9 (.strike hc) hc ht hy hb2 (strike_ok htl)
  have e0 : b1__law_run = sSeq (sSet 11 (mIf (asT (mBin oGt (.ex (mCallR e__law_take 0 [(false, (mC (.int 3)))])) (.ex (mC (.int 0))))) (mCallR e__law_one 0 [(false, (mV 9))]) (mCallR e__law_take 0 [(false, (mBin oIx (.nm 1) (.ex (mC (.int 0)))))])))
    (sSeq (sSet 12 (mTup [(false, (mC (.str "strike"))), (false, (mV 11)), (false, (mTup []))])) (sSeq (sIf (mOr (asT (mBin oEq (.nm 4) (.ex (mC (.int 0))))) (asT (mBin oGt (.ex (mCallR e__law_take 0 [(false, (mV 4))])) (.ex (mC (.int 0))))))
  (sSet 12 (mCallR e__law_drawn_move 0 [(false, (mV 1)), (false, (mBin oIx (.nm 7) (.ex (mUn oNeg (.ex (mC (.int 1))))))), (false, (mV 11)), (false, (mV 8))]))
  sNx) runTail)) := rfl
  rw [e0, wp_sSeq, wp_sSet]
  refine wp.mono (Q := fun v ρ => ∃ t, t < M ∧ ∃ b' : Bag, ∃ y9, Fav fav y9 ∧ v = .fz (.int ((t : Nat) : Int)) ∧ b'.cells.length ≤ 1000 ∧ ρ = runR (some (.ow b'.d)) M rs st many strikes run log (states ++ [tupI cur]) way y9 x10 x11 x12) ?_ fun v ρ h => ?_
  · simp_arith
    refine ⟨rfl, (tk hb (n := 3) (by omega) (by omega)).mono ?_⟩
    rintro _ _ ⟨q, b2, q0, q1, rfl, rfl, hb2⟩
    simp_arith
    by_cases c : 0 < q
    · rw [if_pos c]
      have one : ∀ Qx : Val → Option (List FK.D) → Prop, (∀ d ∈ fav, ∀ b3 : Bag, b3.cells.length ≤ 1000 → Qx (.fz (.int (d : Int))) (some b3.d)) → wpF (e__law_one.f [.ow b2.d, .fz (.list (natsD fav))]) Qx := fun Qx hQ => by
        refine (one_ok b2 (natsD fav) hb2 (by simp [hf]) (by simp; omega)).mono ?_
        rintro _ _ ⟨x, b3, hx, rfl, rfl, hb3⟩
        obtain ⟨d, hd, rfl⟩ := List.mem_map.mp hx
        exact hQ d hd b3 (by rw [hb3]; exact hb2)
      rcases hx9 with rfl | rfl
      · simp_arith
        exact ⟨rfl, one _ fun d hd b3 hb3 => ⟨d, hfm d hd, b3, _, .inr rfl, rfl, hb3, rfl⟩⟩
      · simp_arith
        exact ⟨rfl, one _ fun d hd b3 hb3 => ⟨d, hfm d hd, b3, _, .inr rfl, rfl, hb3, rfl⟩⟩
    · rw [if_neg c]
      refine ⟨rfl, (tk hb2 (n := (M : Int)) (by omega) (by omega)).mono ?_⟩
      rintro _ _ ⟨k, b3, k0, k1, rfl, rfl, hb3⟩
      obtain ⟨j, rfl⟩ := Int.eq_ofNat_of_zero_le k0
      simp_arith
      exact ⟨j, by omega, b3, x9, hx9, rfl, hb3, rfl⟩
  · obtain ⟨t, ht, b', y9, hy, rfl, hb', rfl⟩ := h
    rw [if_pos (by simp)]
    exact mv t b' y9 ht hy hb'
/-- what a run gives: its log, from the first state to the last -/
theorem run_ok {b : Bag} (hb : b.cells.length ≤ 1000) {n : Nat} (hn : n ≤ 1000) (hM : M ≤ 1000) (h1 : rs.length ≤ 1000) (hr : ∀ x ∈ rs, 1 ≤ x) (hlen : st.length = M) (hst : 0 ≤ strikes ∧ strikes ≤ 1000) :
    wpF (e__law_run.f [.ow b.d, .fz (hou M rs), .fz (tupI st), .fz (.int (n : Int)), .fz (.int strikes)]) fun v o => ∃ mvs log states st', ∃ b' : Bag, v = .fz (.tuple [.tuple mvs, .tuple (log.map Ent.d), .list states]) ∧ Moves rs st log st' ∧ (∀ e ∈ log, e.t < M) ∧ log.length ≤ n ∧ o = some b'.d ∧ b'.cells.length ≤ 1000 := by
  show wpF (fnOf 13 m__law_run _) _
  rw [wpF_fnOf]
  unfold m__law_run
  simp_arith
  refine ⟨rfl, (oneI hb (lo := 0) (hi := 2) (in_cons (by omega) (in_cons (by omega) (in_cons (by omega) (in_cons (by omega) in_nil)))) (by simp) (by simp)).mono ?_⟩
  rintro _ _ ⟨way, b1, w0, w1, rfl, rfl, hb1⟩
  simp_arith [rngOf1 (show M ≤ 1000000 by omega)]
  refine ⟨rfl, (mixedP hb1 (fun (k : Nat) => PyData.int (k : Int)) (l := List.range M) (by rw [List.length_range]; exact hM) rfl).mono ?_⟩
  rintro _ _ ⟨l', b2, rfl, pm, rfl, hb2⟩
  simp_arith
  refine ⟨rfl, (tk hb2 (n := max 1 (M : Int)) (by omega) (by omega)).mono ?_⟩
  rintro _ _ ⟨k, b3, k0, k1, rfl, rfl, hb3⟩
  obtain ⟨j, rfl⟩ := Int.eq_ofNat_of_zero_le k0
  simp_arith [cut_first (fun (k : Nat) => PyData.int (k : Int)) l' (j + 1) (1 + (j : Int)) (by omega)]
  have loop : ∀ m : Nat, m ≤ n → (0 < m → 0 < M) → wp (forL (.nm 10) b1__law_run ((List.range m).map fun (k : Nat) => PyData.int (k : Int))) (runR (some (.ow b3.d)) M rs st n strikes [] [] [tupI st] way (some (.ow (natsD (l'.take (j + 1))))) none none none) fun f ρ => f = .nx ∧
      ∃ mvs log states st', ∃ b' : Bag, ∃ x9 x10 x11 x12, Moves rs st log st' ∧ (∀ e ∈ log, e.t < M) ∧ log.length ≤ n ∧ b'.cells.length ≤ 1000 ∧ ρ = runR (some (.ow b'.d)) M rs st n strikes mvs (log.map Ent.d) states way x9 x10 x11 x12 := fun m hm hmM => by
    refine wp_up (fun i ρ => ∃ mvs log states cur, ∃ b' : Bag, ∃ x9 x10 x11 x12, Moves rs st log cur ∧ (∀ e ∈ log, e.t < M) ∧ Fav (l'.take (j + 1)) x9 ∧ log.length = i ∧ mvs.length = i ∧ states.length = i ∧ b'.cells.length ≤ 1000 ∧ ρ = runR (some (.ow b'.d)) M rs st n strikes mvs (log.map Ent.d) (states ++ [tupI cur]) way x9 x10 x11 x12) (fun i ρ hi h => ?_) (fun ρ h => ?_)
      ⟨[], [], [], st, b3, _, none, none, none, .nil, (fun e h => by cases h), .inl rfl, rfl, rfl, rfl, hb3, rfl⟩
    · obtain ⟨mvs, log, states, cur, b', x9, x10, x11, x12, hmv, he, hx9, g1, g2, g3, hb', rfl⟩ := h
      have hM0 := hmM (by omega)
      simp_arith
      refine (run_body (cur := cur) (fav := l'.take (j + 1)) hb' hM h1 hr hM0 (by rw [hmv.len, hlen]) ?_ ?_ ?_ hx9 hst (by omega) (by rw [List.length_map]; omega) (by omega)).mono ?_
      · intro z
        have := congrArg List.length z
        rw [List.length_take, pm.length_eq, List.length_range, List.length_nil] at this
        omega
      · intro t ht
        exact List.mem_range.mp (pm.mem_iff.mp (List.mem_of_mem_take ht))
      · rw [List.length_take, pm.length_eq, List.length_range]; omega
      · rintro _ _ ⟨rfl, e, cur', b4, mv, y9, y11, y12, m1, m2, m3, hb4, rfl⟩
        refine ⟨mvs ++ [mv], log ++ [e], states ++ [tupI cur], cur', b4, y9, _, y11, y12, .snoc hmv m1, fun e' h' => ?_, m3, by simp [g1], by simp [g2], by simp [g3], hb4, by rw [List.map_append]; rfl⟩
        rcases List.mem_append.mp h' with h' | h'
        · exact he e' h'
        · rw [List.mem_singleton.mp h']; exact m2
    · obtain ⟨mvs, log, states, cur, b', x9, x10, x11, x12, hmv, he, hx9, g1, g2, g3, hb', rfl⟩ := h
      exact ⟨rfl, mvs, log, states ++ [tupI cur], cur, b', x9, x10, x11, x12, hmv, he, by omega, hb', rfl⟩
  by_cases c : 0 < (M : Int)
  · rw [if_pos c, rngOf1 (show n ≤ 1000000 by omega), wpV_some]
    refine (loop n (Nat.le_refl _) fun _ => by omega).mono ?_
    rintro _ _ ⟨rfl, mvs, log, states, st', b', x9, x10, x11, x12, m1, m2, m3, hb', rfl⟩
    simp_arith
    exact ⟨mvs, log, states, st', b', rfl, m1, m2, m3, rfl, hb'⟩
  · rw [if_neg c, show rngOf [PyData.int 0] = some ((List.range 0).map fun (k : Nat) => PyData.int (k : Int)) from rngOf1 (n := 0) (by omega), wpV_some]
    refine (loop 0 (Nat.zero_le _) fun z => by omega).mono ?_
    rintro _ _ ⟨rfl, mvs, log, states, st', b', x9, x10, x11, x12, m1, m2, m3, hb', rfl⟩
    simp_arith
    exact ⟨mvs, log, states, st', b', rfl, m1, m2, m3, rfl, hb'⟩
theorem story_ok {b : Bag} (hb : b.cells.length ≤ 1000) {n : Nat} {s : Option (List Int)} (hn : n ≤ 1000) (hM : M ≤ 1000) (h1 : rs.length ≤ 1000) (hr : ∀ x ∈ rs, 1 ≤ x ∧ x ≤ 1000) (hs : Sta0 M rs s) (hst : 0 ≤ strikes ∧ strikes ≤ 1000) :
    wpF (e__law_story.f [.ow b.d, .fz (hou M rs), .fz (stD s), .fz (.int (n : Int)), .fz (.int strikes)]) fun v o => ∃ mvs log states st st', ∃ b' : Bag, v = .fz (.tuple [.tuple mvs, .tuple (log.map Ent.d), .list states]) ∧ (∀ st0, s = some st0 → st = st0) ∧ Sta M rs st ∧ Moves rs st log st' ∧ (∀ e ∈ log, e.t < M) ∧ log.length ≤ n ∧ o = some b'.d ∧ b'.cells.length ≤ 1000 := by
  show wpF (fnOf 5 m__law_story _) _
  rw [wpF_fnOf]
  unfold m__law_story
  have run : ∀ (st : List Int) (b2 : Bag), Sta M rs st → (∀ st0, s = some st0 → st = st0) → b2.cells.length ≤ 1000 → wpF (e__law_run.f [.ow b2.d, .fz (hou M rs), .fz (tupI st), .fz (.int (n : Int)), .fz (.int strikes)]) fun v o => ∃ mvs log states st st', ∃ b' : Bag, v = .fz (.tuple [.tuple mvs, .tuple (log.map Ent.d), .list states]) ∧ (∀ st0, s = some st0 → st = st0) ∧ Sta M rs st ∧ Moves rs st log st' ∧ (∀ e ∈ log, e.t < M) ∧ log.length ≤ n ∧ o = some b'.d ∧ b'.cells.length ≤ 1000 := fun st b2 hS he hb2 => by
    refine (run_ok hb2 hn hM h1 (fun x hx => (hr x hx).1) hS.len hst).mono ?_
    rintro _ _ ⟨mvs, log, states, st', b', rfl, m1, m2, m3, rfl, hb'⟩
    exact ⟨mvs, log, states, st, st', b', rfl, he, hS, m1, m2, m3, rfl, hb'⟩
  have fin : ∀ (v : Val) (o : Option (List FK.D)), (∃ mvs log states st st', ∃ b' : Bag, v = .fz (.tuple [.tuple mvs, .tuple (log.map Ent.d), .list states]) ∧ (∀ st0, s = some st0 → st = st0) ∧ Sta M rs st ∧ Moves rs st log st' ∧ (∀ e ∈ log, e.t < M) ∧ log.length ≤ n ∧ o = some b'.d ∧ b'.cells.length ≤ 1000) → ∃ bs', o = some bs' ∧
      ∃ mvs log states st st', ∃ b' : Bag, v = .fz (.tuple [.tuple mvs, .tuple (log.map Ent.d), .list states]) ∧ (∀ st0, s = some st0 → st = st0) ∧ Sta M rs st ∧ Moves rs st log st' ∧ (∀ e ∈ log, e.t < M) ∧ log.length ≤ n ∧ some bs' = some b'.d ∧ b'.cells.length ≤ 1000 := fun v o ⟨mvs, log, states, st, st', b', h1, h2, h3, h4, h5, h6, h7, h8⟩ => ⟨_, h7, mvs, log, states, st, st', b', h1, h2, h3, h4, h5, h6, rfl, h8⟩
  cases s with
  | none =>
    unfold stD
    simp_arith
    refine ⟨rfl, (full_ok hb hM h1 (fun x hx => ⟨by have := hr x hx; omega, (hr x hx).2⟩) (hs.no rfl)).mono ?_⟩
    rintro _ _ ⟨st, b2, rfl, hS, rfl, hb2⟩
    simp_arith
    refine ⟨rfl, (run st b2 hS (fun st0 z => by cases z) hb2).mono fun v o h => ?_⟩
    obtain ⟨bs', rfl, h⟩ := fin v o h
    exact h
  | some st =>
    unfold stD
    simp_arith [isNon]
    refine ⟨rfl, (run st b (hs.st st rfl) (fun st0 z => by cases z; rfl) hb).mono fun v o h => ?_⟩
    obtain ⟨bs', rfl, h⟩ := fin v o h
    exact h
end
end FW

/-! FwN: what a tight knowledge is, place by place. -/
namespace FW
open PySem FK
theorem getD_cons_succ' (x : Int) (xs : List Int) (p : Nat) : (x :: xs).getD (p + 1) 0 = xs.getD p 0 := by simp
theorem getD_cons_zero' (x : Int) (xs : List Int) : (x :: xs).getD 0 0 = x := by simp
theorem mono_iff : ∀ {w : List Int}, mono w ↔ ∀ p, p + 1 < w.length → w.getD p 0 ≤ w.getD (p + 1) 0
  | [] => ⟨fun _ p h => by simp at h, fun _ => trivial⟩
  | [x] => ⟨fun _ p h => by simp at h, fun _ => trivial⟩
  | x :: y :: r => by
    have ih := mono_iff (w := y :: r)
    constructor
    · rintro ⟨h1, h2⟩ p hp
      cases p with
      | zero => simpa using h1
      | succ p =>
        rw [getD_cons_succ', getD_cons_succ']
        exact ih.mp h2 p (by simpa using hp)
    · intro h
      refine ⟨by simpa using h 0 (by simp), ih.mpr fun p hp => ?_⟩
      have := h (p + 1) (by simpa using hp)
      rwa [getD_cons_succ', getD_cons_succ'] at this
theorem lip_iff : ∀ {w : List Int}, lip w ↔ ∀ p, p + 1 < w.length → w.getD (p + 1) 0 ≤ w.getD p 0 + 1
  | [] => ⟨fun _ p h => by simp at h, fun _ => trivial⟩
  | [x] => ⟨fun _ p h => by simp at h, fun _ => trivial⟩
  | x :: y :: r => by
    have ih := lip_iff (w := y :: r)
    constructor
    · rintro ⟨h1, h2⟩ p hp
      cases p with
      | zero => simpa using h1
      | succ p =>
        rw [getD_cons_succ', getD_cons_succ']
        exact ih.mp h2 p (by simpa using hp)
    · intro h
      refine ⟨by simpa using h 0 (by simp), ih.mpr fun p hp => ?_⟩
      have := h (p + 1) (by simpa using hp)
      rwa [getD_cons_succ', getD_cons_succ'] at this
theorem low_iff : ∀ {w : List Int} {c : Int}, low c w ↔ ∀ p, p < w.length → c + (p : Int) ≤ w.getD p 0
  | [], c => ⟨fun _ p h => by simp at h, fun _ => trivial⟩
  | x :: w, c => by
    have ih := low_iff (w := w) (c := c + 1)
    constructor
    · rintro ⟨h1, h2⟩ p hp
      cases p with
      | zero => simpa using h1
      | succ p =>
        rw [getD_cons_succ']
        have := ih.mp h2 p (by simpa using hp)
        push_cast
        omega
    · intro h
      refine ⟨by have := h 0 (by simp); simpa using this, ih.mpr fun p hp => ?_⟩
      have := h (p + 1) (by simpa using hp)
      rw [getD_cons_succ'] at this
      push_cast at this
      omega
theorem nn_iff : ∀ {w : List Int} {c : Int}, nn c w ↔ ∀ p, p < w.length → c ≤ w.getD p 0
  | [], c => ⟨fun _ p h => by simp at h, fun _ => trivial⟩
  | x :: w, c => by
    have ih := nn_iff (w := w) (c := c)
    constructor
    · rintro ⟨h1, h2⟩ p hp
      cases p with
      | zero => simpa using h1
      | succ p =>
        rw [getD_cons_succ']
        exact ih.mp h2 p (by simpa using hp)
    · intro h
      refine ⟨by have := h 0 (by simp); simpa using this, ih.mpr fun p hp => ?_⟩
      have := h (p + 1) (by simpa using hp)
      rwa [getD_cons_succ'] at this
theorem le2_iff : ∀ {v w : List Int}, v.length = w.length → (le2 v w ↔ ∀ p, p < v.length → v.getD p 0 ≤ w.getD p 0)
  | [], [], _ => ⟨fun _ p h => by simp at h, fun _ => trivial⟩
  | [], _ :: _, h => by cases h
  | _ :: _, [], h => by cases h
  | x :: v, y :: w, hl => by
    have ih := le2_iff (v := v) (w := w) (by simpa using hl)
    constructor
    · rintro ⟨h1, h2⟩ p hp
      cases p with
      | zero => simpa using h1
      | succ p =>
        rw [getD_cons_succ', getD_cons_succ']
        exact ih.mp h2 p (by simpa using hp)
    · intro h
      refine ⟨by have := h 0 (by simp); simpa using this, ih.mpr fun p hp => ?_⟩
      have := h (p + 1) (by simpa using hp)
      rwa [getD_cons_succ', getD_cons_succ'] at this
theorem leg_iff {g : Int} : ∀ {v w : List Int}, v.length = w.length → (leg g v w ↔ ∀ p, p < v.length → v.getD p 0 - g ≤ w.getD p 0)
  | [], [], _ => ⟨fun _ p h => by simp at h, fun _ => trivial⟩
  | [], _ :: _, h => by cases h
  | _ :: _, [], h => by cases h
  | x :: v, y :: w, hl => by
    have ih := leg_iff (g := g) (v := v) (w := w) (by simpa using hl)
    constructor
    · rintro ⟨h1, h2⟩ p hp
      cases p with
      | zero => simpa using h1
      | succ p =>
        rw [getD_cons_succ', getD_cons_succ']
        exact ih.mp h2 p (by simpa using hp)
    · intro h
      refine ⟨by have := h 0 (by simp); simpa using this, ih.mpr fun p hp => ?_⟩
      have := h (p + 1) (by simpa using hp)
      rwa [getD_cons_succ', getD_cons_succ'] at this
/-- a tight word of the size s -/
structure Wd (m : Nat) (s : Int) (w : List Int) : Prop where
  len : w.length = m + 1
  z : w.getD 0 0 = 0
  up : ∀ p, p < m → w.getD p 0 ≤ w.getD (p + 1) 0
  by1 : ∀ p, p < m → w.getD (p + 1) 0 ≤ w.getD p 0 + 1
  top : w.getD m 0 = s
theorem Wd.le {m : Nat} {s : Int} {w : List Int} (h : Wd m s w) : ∀ {p q : Nat}, p ≤ q → q ≤ m → w.getD p 0 ≤ w.getD q 0 ∧ w.getD q 0 ≤ w.getD p 0 + ((q : Int) - p) := by
  intro p q
  induction q with
  | zero =>
    intro h1 _
    have : p = 0 := by omega
    subst this
    omega
  | succ q ih =>
    intro h1 h2
    by_cases c : p = q + 1
    · subst c; omega
    · have := ih (by omega) (by omega)
      have := h.up q (by omega)
      have := h.by1 q (by omega)
      push_cast
      omega
theorem Wd.low {m : Nat} {s : Int} {w : List Int} (h : Wd m s w) {p : Nat} (hp : p ≤ m) : s - ((m : Int) - p) ≤ w.getD p 0 := by
  have := (h.le hp (Nat.le_refl m)).2
  rw [h.top] at this
  omega
theorem Wd.nn {m : Nat} {s : Int} {w : List Int} (h : Wd m s w) {p : Nat} (hp : p ≤ m) : 0 ≤ w.getD p 0 := by
  have := (h.le (Nat.zero_le p) hp).1
  rw [h.z] at this
  exact this
theorem Wd.les {m : Nat} {s : Int} {w : List Int} (h : Wd m s w) {p : Nat} (hp : p ≤ m) : w.getD p 0 ≤ s := by
  have := (h.le hp (Nat.le_refl m)).1
  rw [h.top] at this
  exact this
theorem Wd.lep {m : Nat} {s : Int} {w : List Int} (h : Wd m s w) {p : Nat} (hp : p ≤ m) : w.getD p 0 ≤ p := by
  have := (h.le (Nat.zero_le p) hp).2
  rw [h.z] at this
  simpa using this
/-- the next floor -/
def Nx (m : Nat) (s : Int) (w : List Int) (s' : Int) (w' : List Int) : Prop := ∀ p, p ≤ m → w.getD p 0 ≤ w'.getD p 0 ∧ w'.getD p 0 - w.getD p 0 ≤ s' - s
def Tf (m : Nat) : List Int → List (List Int) → Prop
  | [s], [w] => Wd m s w
  | s :: s' :: ss, w :: w' :: ws => Wd m s w ∧ Nx m s w s' w' ∧ Tf m (s' :: ss) (w' :: ws)
  | _, _ => False
theorem okW_iff {w : List Int} {s : Int} : okW w s = true ↔ ∀ p, p < w.length → w.getD p 0 ≤ min (p : Int) s := by
  unfold okW
  rw [Bool.not_eq_true', List.any_eq_false]
  constructor
  · intro h p hp
    have := h (w.getD p 0, p) (List.mem_zipIdx_iff_getElem?.mpr (by rw [List.getD_eq_getElem?_getD, List.getElem?_eq_getElem hp]; rfl))
    simpa using this
  · rintro h ⟨x, p⟩ hq
    have e : w[p]? = some x := List.mem_zipIdx_iff_getElem?.mp hq
    have := h p (List.getElem?_eq_some_iff.mp e).1
    rw [List.getD_eq_getElem?_getD, e] at this
    simpa using this
theorem wd_gd {m : Nat} {s : Int} {w : List Int} : Wd m s w ↔ w.length = m + 1 ∧ Gd (s - (m : Int)) w ∧ okW w s = true := by
  constructor
  · intro h
    refine ⟨h.len, ⟨mono_iff.mpr fun p hp => h.up p (by rw [h.len] at hp; omega), lip_iff.mpr fun p hp => h.by1 p (by rw [h.len] at hp; omega), nn_iff.mpr fun p hp => h.nn (by rw [h.len] at hp; omega), low_iff.mpr fun p hp => ?_⟩, okW_iff.mpr fun p hp => ?_⟩
    · have := h.low (p := p) (by rw [h.len] at hp; omega)
      omega
    · have h1 := h.lep (p := p) (by rw [h.len] at hp; omega)
      have h2 := h.les (p := p) (by rw [h.len] at hp; omega)
      omega
  · rintro ⟨hl, g, ok⟩
    have o := okW_iff.mp ok
    have n := nn_iff.mp g.no
    have l := low_iff.mp g.lo
    refine ⟨hl, ?_, fun p hp => mono_iff.mp g.mo p (by omega), fun p hp => lip_iff.mp g.li p (by omega), ?_⟩
    · have h1 := o 0 (by omega)
      have h2 := n 0 (by omega)
      simp only [Int.ofNat_zero] at h1
      omega
    · have h1 := o m (by omega)
      have h2 := l m (by omega)
      omega
theorem nx_iff {m : Nat} {s s' : Int} {w w' : List Int} (h : w.length = m + 1) (h' : w'.length = m + 1) : Nx m s w s' w' ↔ le2 w w' ∧ leg (s' - s) w' w := by
  rw [le2_iff (by rw [h, h']), leg_iff (by rw [h, h'])]
  constructor
  · intro k
    exact ⟨fun p hp => (k p (by omega)).1, fun p hp => by have := (k p (by omega)).2; omega⟩
  · rintro ⟨k1, k2⟩ p hp
    have := k1 p (by omega)
    have := k2 p (by omega)
    omega
theorem tf_nest {m : Nat} : ∀ {ss : List Int} {ws : List (List Int)}, Tf m ss ws ↔ Nest m ss ws ∧ okP ws ss = true
  | [], [] => ⟨fun h => h.elim, fun h => h.1.elim⟩
  | [], _ :: _ => ⟨fun h => h.elim, fun h => h.1.elim⟩
  | [_], [] => ⟨fun h => h.elim, fun h => h.1.elim⟩
  | _ :: _ :: _, [] => ⟨fun h => h.elim, fun h => h.1.elim⟩
  | _ :: _ :: _, [_] => ⟨fun h => h.elim, fun h => h.1.2.2.elim⟩
  | [_], _ :: _ :: _ => ⟨fun h => h.elim, fun h => h.1.2.2.elim⟩
  | [s], [w] => by
    constructor
    · intro h
      have h : Wd m s w := h
      obtain ⟨h1, h2, h3⟩ := wd_gd.mp h
      exact ⟨⟨h2, h1, trivial⟩, by rw [okP_cons, h3]; rfl⟩
    · rintro ⟨⟨h1, h2, _⟩, h3⟩
      rw [okP_cons, Bool.and_eq_true] at h3
      exact wd_gd.mpr ⟨h2, h1, h3.1⟩
  | s :: s' :: ss, w :: w' :: ws => by
    have ih := tf_nest (m := m) (ss := s' :: ss) (ws := w' :: ws)
    constructor
    · rintro ⟨h1, h2, h3⟩
      obtain ⟨k1, k2, k3⟩ := wd_gd.mp h1
      obtain ⟨⟨n1, n2, n3⟩, n4⟩ := ih.mp h3
      obtain ⟨x1, x2⟩ := (nx_iff k1 n2).mp h2
      exact ⟨⟨k2, k1, n1, n2, x1, x2, n3⟩, by rw [okP_cons, k3, n4]; rfl⟩
    · rintro ⟨⟨k2, k1, n1, n2, x1, x2, n3⟩, h3⟩
      rw [okP_cons, Bool.and_eq_true] at h3
      exact ⟨wd_gd.mpr ⟨k1, k2, h3.1⟩, (nx_iff k1 n2).mpr ⟨x1, x2⟩, ih.mpr ⟨⟨n1, n2, n3⟩, h3.2⟩⟩
theorem tf_len {m : Nat} : ∀ {ss : List Int} {ws : List (List Int)}, Tf m ss ws → ws.length = ss.length
  | [], [], h => h.elim
  | [], _ :: _, h => h.elim
  | [_], [], h => h.elim
  | _ :: _ :: _, [], h => h.elim
  | _ :: _ :: _, [_], h => h.elim
  | [_], _ :: _ :: _, h => h.elim
  | [_], [_], _ => rfl
  | s :: s' :: ss, w :: w' :: ws, h => by
    have := tf_len h.2.2
    simp only [List.length_cons] at this ⊢
    omega
theorem tf_wd {m : Nat} : ∀ {ss : List Int} {ws : List (List Int)}, Tf m ss ws → ∀ (i : Nat) (s : Int) (w : List Int), ss[i]? = some s → ws[i]? = some w → Wd m s w
  | [], [], h => h.elim
  | [], _ :: _, h => h.elim
  | [_], [], h => h.elim
  | _ :: _ :: _, [], h => h.elim
  | _ :: _ :: _, [_], h => h.elim
  | [_], _ :: _ :: _, h => h.elim
  | [s], [w], h => fun i a b e1 e2 => by
    cases i with
    | zero =>
      have e1 : s = a := by simpa using e1
      have e2 : w = b := by simpa using e2
      subst e1; subst e2
      exact h
    | succ i => simp at e1
  | s :: s' :: ss, w :: w' :: ws, h => fun i a b e1 e2 => by
    cases i with
    | zero =>
      have e1 : s = a := by simpa using e1
      have e2 : w = b := by simpa using e2
      subst e1; subst e2
      exact h.1
    | succ i => exact tf_wd h.2.2 i a b (by simpa using e1) (by simpa using e2)
theorem tf_lasts {m : Nat} : ∀ {ss : List Int} {ws : List (List Int)}, Tf m ss ws → lastsP ws = ss := by
  intro ss ws h
  have hl := tf_len h
  refine List.ext_getElem? fun i => ?_
  unfold lastsP
  rw [List.getElem?_map]
  by_cases hi : i < ss.length
  · rw [List.getElem?_eq_getElem hi, List.getElem?_eq_getElem (by omega)]
    have w := tf_wd h i _ _ (List.getElem?_eq_getElem hi) (List.getElem?_eq_getElem (by omega : i < ws.length))
    show some ((ws[i]'(by omega)).getLastD 0) = _
    rw [← w.top]
    have e : ∀ l : List Int, l.length = m + 1 → l.getLastD 0 = l.getD m 0 := fun l hl => by
      rw [List.getLastD_eq_getLast?, List.getLast?_eq_getElem?, hl, List.getD_eq_getElem?_getD]
      rfl
    rw [e _ w.len]
  · rw [List.getElem?_eq_none (by omega), List.getElem?_eq_none (by omega)]
    rfl
theorem tf_up {m : Nat} : ∀ {s : Int} {ss : List Int} {ws : List (List Int)}, Tf m (s :: ss) ws → upF s ss ∧ 0 ≤ s ∧ ∀ x ∈ s :: ss, x ≤ (m : Int)
  | _, [], [], h => h.elim
  | _, _ :: _, [], h => h.elim
  | _, _ :: _, [_], h => h.elim
  | _, [], _ :: _ :: _, h => h.elim
  | s, [], [w], h => by
    have h : Wd m s w := h
    refine ⟨trivial, by have := h.nn (Nat.le_refl m); rwa [h.top] at this, fun x hx => ?_⟩
    rw [List.mem_singleton.mp hx]
    have := h.lep (Nat.le_refl m); rwa [h.top] at this
  | s, s' :: ss, w :: w' :: ws, h => by
    obtain ⟨h1, h2, h3⟩ := h
    obtain ⟨k1, k2, k3⟩ := tf_up h3
    have := (h2 0 (Nat.zero_le m))
    refine ⟨⟨by omega, k1⟩, by have := h1.nn (Nat.le_refl m); rwa [h1.top] at this, fun x hx => ?_⟩
    rcases List.mem_cons.mp hx with rfl | hx
    · have := h1.lep (Nat.le_refl m); rwa [h1.top] at this
    · exact k3 x hx
theorem tight_tf {m : Nat} {W : List (List Int)} {ss : List Int} : Tight m W ss ↔ Tf m ss W := by
  constructor
  · intro h
    obtain ⟨w, ws, rfl⟩ := List.exists_cons_of_ne_nil h.nil
    have hw := (h.all w (List.mem_cons_self ..)).1
    have hL : Len m (w :: ws) := fun v hv => (h.all v hv).1
    have e : (if areP ss ((w.length : Int) - 1) && okP (wordsP (w :: ws) ss) ss then some (wordsP (w :: ws) ss) else none) = some (w :: ws) := h.again
    split at e
    · rename_i hc
      have e := Option.some.inj e
      rw [Bool.and_eq_true, e] at hc
      obtain ⟨s, ss, rfl⟩ : ∃ s t, ss = s :: t := List.exists_cons_of_ne_nil (by
        intro z; have := h.len; rw [z] at this; cases this)
      have ha := hc.1
      unfold areP at ha
      rw [Bool.and_eq_true] at ha
      have hn := words_nest h.len hL (upB_iff.mp ha.2)
      rw [e] at hn
      exact tf_nest.mpr ⟨hn, hc.2⟩
    · cases e
  · intro h
    obtain ⟨hn, ok⟩ := tf_nest.mp h
    have hl := tf_len h
    obtain ⟨w, ws, rfl⟩ : ∃ w t, W = w :: t := by
      cases W with
      | nil => cases ss <;> exact hn.elim
      | cons w t => exact ⟨w, t, rfl⟩
    obtain ⟨s, ss, rfl⟩ : ∃ s t, ss = s :: t := by
      cases ss with
      | nil => exact hn.elim
      | cons s t => exact ⟨s, t, rfl⟩
    have wd : ∀ v ∈ w :: ws, ∃ s, Wd m s v := fun v hv => by
      obtain ⟨i, hi, e⟩ := List.mem_iff_getElem.mp hv
      exact ⟨_, tf_wd h i _ v (List.getElem?_eq_getElem (by omega)) (by rw [List.getElem?_eq_getElem hi, e])⟩
    obtain ⟨u1, u2, u3⟩ := tf_up h
    refine ⟨by simp, hl, fun v hv => ?_, fun v hv x hx => ?_, ?_⟩
    · obtain ⟨s, k⟩ := wd v hv
      obtain ⟨k1, k2, _⟩ := wd_gd.mp k
      exact ⟨k1, k2.mo, k2.no⟩
    · obtain ⟨s, k⟩ := wd v hv
      obtain ⟨p, hp, e⟩ := List.mem_iff_getElem.mp hx
      have := k.len
      have := k.lep (p := p) (by omega)
      rw [List.getD_eq_getElem?_getD, List.getElem?_eq_getElem hp, e] at this
      simp at this
      omega
    · show (if areP (s :: ss) ((w.length : Int) - 1) && okP (wordsP (w :: ws) (s :: ss)) (s :: ss) then some (wordsP (w :: ws) (s :: ss)) else none) = some (w :: ws)
      rw [nest_same hn, ok]
      have ha : areP (s :: ss) ((w.length : Int) - 1) = true := by
        have := last_le u3
        rw [areP_cons, upB_iff.mpr u1, hn.2.1, Bool.and_true, decide_eq_false (by omega), Bool.false_or, decide_eq_false (by push_cast; omega)]
        rfl
      rw [ha]
      rfl
end FW

/-! FwO: the knowledge at first. -/
namespace FW
open PySem FK
/-- each floor holds no more than it has rooms -/
def LegS (s : Int) : List Int → List Int → Prop
  | [], [] => True
  | r :: rs, s' :: ss => s' - s ≤ r ∧ LegS s' rs ss
  | _, _ => False
abbrev knD (ord : List Nat) (W : List (List Int)) : FK.D := .tuple [.tuple (natsD ord), rowsD W]
structure Kn (M : Nat) (rs : List Int) (ord : List Nat) (ss : List Int) (W : List (List Int)) : Prop where
  perm : ord.Perm (List.range M)
  tf : Tf M ss W
  leg : LegS 0 rs ss
theorem LegS.len : ∀ {s : Int} {rs ss : List Int}, LegS s rs ss → rs.length = ss.length
  | _, [], [], _ => rfl
  | _, r :: rs, s' :: ss, h => by rw [List.length_cons, List.length_cons, LegS.len h.2]
  | _, [], _ :: _, h => h.elim
  | _, _ :: _, [], h => h.elim
theorem tf_of {m : Nat} {f : Int → List Int} (hw : ∀ s, 0 ≤ s → s ≤ (m : Int) → Wd m s (f s)) (hn : ∀ s s', 0 ≤ s → s ≤ s' → s' ≤ (m : Int) → Nx m s (f s) s' (f s')) : ∀ {s : Int} {ss : List Int}, 0 ≤ s → upF s ss → (∀ x ∈ s :: ss, x ≤ (m : Int)) → Tf m (s :: ss) ((s :: ss).map f)
  | s, [], h0, _, hm => hw s h0 (hm s List.mem_cons_self)
  | s, s' :: ss, h0, u, hm => by
    have h1 := hm s' (List.mem_cons_of_mem _ List.mem_cons_self)
    exact ⟨hw s h0 (hm s List.mem_cons_self), hn s s' h0 u.1 h1, tf_of hw hn (by have := u.1; omega) u.2 fun x hx => hm x (List.mem_cons_of_mem _ hx)⟩
theorem getD_rng (m : Nat) (g : Nat → Int) {p : Nat} (hp : p ≤ m) : ((List.range (m + 1)).map g).getD p 0 = g p := by
  rw [List.getD_eq_getElem?_getD, List.getElem?_map, List.getElem?_range (by omega)]
  rfl
def loW (m : Nat) (s : Int) : List Int := (List.range (m + 1)).map fun (c : Nat) => max 0 (s - ((m : Int) - (c : Int)))
def hiW (m : Nat) (s : Int) : List Int := (List.range (m + 1)).map fun (c : Nat) => min (c : Int) s
theorem lo_wd (m : Nat) (s : Int) (h0 : 0 ≤ s) (h1 : s ≤ (m : Int)) : Wd m s (loW m s) := by
  unfold loW
  refine ⟨by simp, ?_, fun p hp => ?_, fun p hp => ?_, ?_⟩
  · rw [getD_rng m _ (Nat.zero_le m)]; simp only [Int.ofNat_zero]; omega
  · rw [getD_rng m _ (by omega), getD_rng m _ (by omega)]; push_cast; omega
  · rw [getD_rng m _ (by omega), getD_rng m _ (by omega)]; push_cast; omega
  · rw [getD_rng m _ (Nat.le_refl m)]; omega
theorem lo_nx (m : Nat) (s s' : Int) (h0 : 0 ≤ s) (h : s ≤ s') (h1 : s' ≤ (m : Int)) : Nx m s (loW m s) s' (loW m s') := fun p hp => by
  unfold loW
  rw [getD_rng m _ hp, getD_rng m _ hp]
  omega
theorem hi_wd (m : Nat) (s : Int) (h0 : 0 ≤ s) (h1 : s ≤ (m : Int)) : Wd m s (hiW m s) := by
  unfold hiW
  refine ⟨by simp, ?_, fun p hp => ?_, fun p hp => ?_, ?_⟩
  · rw [getD_rng m _ (Nat.zero_le m)]; simp only [Int.ofNat_zero]; omega
  · rw [getD_rng m _ (by omega), getD_rng m _ (by omega)]; push_cast; omega
  · rw [getD_rng m _ (by omega), getD_rng m _ (by omega)]; push_cast; omega
  · rw [getD_rng m _ (Nat.le_refl m)]; omega
theorem hi_nx (m : Nat) (s s' : Int) (h0 : 0 ≤ s) (h : s ≤ s') (h1 : s' ≤ (m : Int)) : Nx m s (hiW m s) s' (hiW m s') := fun p hp => by
  unfold hiW
  rw [getD_rng m _ hp, getD_rng m _ hp]
  omega
/-! ### rooms -/
def roomsA (a : Int) : List Int → List Int
  | [] => []
  | r :: rs => (a + r) :: roomsA (a + r) rs
theorem rooms_eq : ∀ (rs : List Int) (a : Int), ((List.range rs.length).map fun f => a + (rs.take (f + 1)).sum) = roomsA a rs
  | [], a => rfl
  | r :: rs, a => by
    rw [List.length_cons, List.range_succ_eq_map, List.map_cons, List.map_map]
    have ih := rooms_eq rs (a + r)
    show (a + ((r :: rs).take 1).sum) :: _ = (a + r) :: roomsA (a + r) rs
    rw [← ih]
    congr 1
    · simp
    · refine List.map_congr_left fun f _ => ?_
      show a + ((r :: rs).take (f + 1 + 1)).sum = a + r + (rs.take (f + 1)).sum
      rw [List.take_succ_cons, List.sum_cons]
      omega
theorem roomsW_eq (rs : List Int) : roomsW rs = roomsA 0 rs := by
  rw [← rooms_eq rs 0]
  unfold roomsW
  refine List.map_congr_left fun f _ => ?_
  omega
theorem rooms_leg : ∀ (rs : List Int) (a : Int), LegS a rs (roomsA a rs)
  | [], a => trivial
  | r :: rs, a => ⟨by omega, rooms_leg rs (a + r)⟩
theorem rooms_up : ∀ {rs : List Int} {a : Int}, (∀ x ∈ rs, 0 ≤ x) → upF a (roomsA a rs)
  | [], a, _ => trivial
  | r :: rs, a, h => ⟨by have := h r List.mem_cons_self; omega, rooms_up fun x hx => h x (List.mem_cons_of_mem _ hx)⟩
theorem rooms_le : ∀ {rs : List Int} {a : Int}, (∀ x ∈ rs, 0 ≤ x) → ∀ x ∈ roomsA a rs, x ≤ a + rs.sum
  | [], a, _, x, hx => by cases hx
  | r :: rs, a, h, x, hx => by
    have h' : ∀ x ∈ rs, 0 ≤ x := fun x hx => h x (List.mem_cons_of_mem _ hx)
    have hs : 0 ≤ rs.sum := by
      have : ∀ l : List Int, (∀ x ∈ l, 0 ≤ x) → 0 ≤ l.sum := fun l hl => by
        induction l with
        | nil => simp
        | cons y l ih =>
          rw [List.sum_cons]
          have := hl y List.mem_cons_self
          have := ih fun x hx => hl x (List.mem_cons_of_mem _ hx)
          omega
      exact this rs h'
    rw [List.sum_cons]
    rcases List.mem_cons.mp hx with rfl | hx
    · omega
    · have := rooms_le h' x hx
      omega
/-! ### sizes -/
def prevN (st : List Int) (k : Nat) : Int := (st.countP fun x => decide (x < (k : Int)) : Nat)
theorem prev_succ {st : List Int} {k : Nat} : prevN st (k + 1) = prevN st k + (st.count (k : Int) : Nat) := by
  unfold prevN
  induction st with
  | nil => rfl
  | cons x st ih =>
    rw [List.countP_cons, List.countP_cons, List.count_cons]
    generalize st.countP (fun x => decide (x < ((k + 1 : Nat) : Int))) = A at ih ⊢
    generalize st.countP (fun x => decide (x < (k : Int))) = B at ih ⊢
    generalize st.count (k : Int) = C at ih ⊢
    by_cases c1 : x < (k : Int)
    · rw [if_pos (decide_eq_true (by omega : x < ((k + 1 : Nat) : Int))), if_pos (decide_eq_true c1), if_neg (by
        intro z
        have : x = (k : Int) := by simpa using z
        omega)]
      omega
    · by_cases c3 : x = (k : Int)
      · rw [if_pos (decide_eq_true (by omega : x < ((k + 1 : Nat) : Int))), if_neg (by simpa using c1), if_pos (by simpa using c3)]
        omega
      · rw [if_neg (by simp; omega), if_neg (by simpa using c1), if_neg (by simpa using c3)]
        omega
theorem sizes_prev (rs st : List Int) : sizesL rs st = (List.range' 0 rs.length).map fun f => prevN st (f + 1) := by
  unfold sizesL
  rw [List.range_eq_range']
  refine List.map_congr_left fun f _ => ?_
  unfold prevN
  congr 1
  refine List.countP_congr fun x _ => ?_
  simp
  omega
theorem sizes_leg {st : List Int} : ∀ {rs : List Int} {k : Nat}, (∀ (f : Nat) (r : Int), rs[f]? = some r → ((st.count ((k + f : Nat) : Int) : Nat) : Int) ≤ r) → LegS (prevN st k) rs ((List.range' k rs.length).map fun f => prevN st (f + 1))
  | [], k, _ => trivial
  | r :: rs, k, h => by
    rw [List.length_cons, List.range'_succ, List.map_cons]
    refine ⟨?_, sizes_leg fun f r' e => ?_⟩
    · rw [prev_succ]
      have := h 0 r rfl
      simp only [Nat.add_zero] at this
      omega
    · have := h (f + 1) r' (by simpa using e)
      rw [show k + (f + 1) = k + 1 + f by omega] at this
      exact this
theorem sizes_up {st : List Int} : ∀ {n k : Nat}, upF (prevN st k) ((List.range' k n).map fun f => prevN st (f + 1))
  | 0, k => trivial
  | n + 1, k => by
    rw [List.range'_succ, List.map_cons]
    exact ⟨by rw [prev_succ]; omega, sizes_up⟩
theorem prev_le {st : List Int} {k : Nat} : 0 ≤ prevN st k ∧ prevN st k ≤ (st.length : Int) := by
  have : st.countP (fun x => decide (x < (k : Int))) ≤ st.length := List.countP_le_length
  unfold prevN
  omega
theorem prev_zero {st : List Int} (h : ∀ x ∈ st, 0 ≤ x) : prevN st 0 = 0 := by
  unfold prevN
  have : st.countP (fun x => decide (x < ((0 : Nat) : Int))) = 0 := List.countP_eq_zero.mpr fun x hx => by
    have := h x hx
    simp
    omega
  rw [this]
  rfl
theorem kn_none {M : Nat} {rs : List Int} (h0 : rs ≠ []) (hr : ∀ x ∈ rs, 0 ≤ x) (hs : rs.sum ≤ (M : Int)) : Kn M rs (List.range M) (roomsW rs) ((roomsW rs).map (loW M)) := by
  rw [roomsW_eq]
  refine ⟨.refl _, ?_, rooms_leg rs 0⟩
  obtain ⟨r, rs, rfl⟩ := List.exists_cons_of_ne_nil h0
  have hu := rooms_up (a := 0) hr
  have hl := rooms_le (a := 0) hr
  exact tf_of (lo_wd M) (lo_nx M) hu.1 hu.2 fun x hx => by have := hl x hx; omega
theorem kn_some {M : Nat} {rs st : List Int} {ord : List Nat} (h0 : rs ≠ []) (hS : Sta M rs st) (hp : ord.Perm (List.range M)) : Kn M rs ord (sizesL rs st) ((sizesL rs st).map (hiW M)) := by
  rw [sizes_prev]
  have hz := prev_zero fun x hx => (hS.rng x hx).1
  have hl := sizes_leg (st := st) (rs := rs) (k := 0) fun f r e => by rw [Nat.zero_add]; exact hS.leg f r e
  have hu := sizes_up (st := st) (n := rs.length) (k := 0)
  rw [hz] at hl hu
  refine ⟨hp, ?_, hl⟩
  have hm : ∀ x ∈ (List.range' 0 rs.length).map (fun f => prevN st (f + 1)), x ≤ (M : Int) := fun x hx => by
    obtain ⟨f, _, rfl⟩ := List.mem_map.mp hx
    have := (prev_le (st := st) (k := f + 1)).2
    rw [hS.len] at this
    exact this
  obtain ⟨n, hn⟩ : ∃ n, rs.length = n + 1 := ⟨rs.length - 1, by have := List.length_pos_iff.mpr h0; omega⟩
  rw [hn, List.range'_succ, List.map_cons] at hu hm ⊢
  exact tf_of (hi_wd M) (hi_nx M) hu.1 hu.2 hm
end FW

/-! FwP: the first knowledge, as the law makes it. -/
namespace FW
open PySem FK
theorem rowAt_ints {st : List Int} {k : Nat} (h : k < st.length) : rowAt (intsD st) k = some (st.getD k 0) := by
  unfold rowAt
  rw [List.getElem?_map, List.getElem?_eq_getElem h]
  show some st[k] = _
  rw [List.getD_eq_getElem?_getD, List.getElem?_eq_getElem h]
  rfl
theorem sortRow_ok {st : List Int} {M : Nat} (h : st.length = M) (hM : M ≤ 1000) : ∃ ord : List Nat, oSortRow (tupI st) (.int (M : Int)) = some (.ow (natsD ord)) ∧ ord.Perm (List.range M) := by
  have hc : (small (M : Int) && (List.range (M : Int).toNat).all fun k => (rowAt (intsD st) k).isSome) = true := by
    rw [small_i (by omega), Bool.true_and, List.all_eq_true]
    intro k hk
    have hk := List.mem_range.mp hk
    rw [rowAt_ints (by omega)]
    rfl
  obtain ⟨ord, e, p⟩ := perm_map (fun (k : Nat) => (k : Int)) (List.mergeSort_perm ((List.range (M : Int).toNat).map fun (k : Nat) => (k : Int)) (rowLe fun i => (rowAt (intsD st) i.toNat).getD 0)) (List.range M) (by rw [Int.toNat_natCast])
  refine ⟨ord, ?_, p⟩
  show (if (small (M : Int) && (List.range (M : Int).toNat).all fun k => (rowAt (intsD st) k).isSome) = true then _ else none) = _
  rw [if_pos hc, e]
  unfold natsD
  rw [List.map_map]
  rfl
theorem map_snoc {α β : Type} (f : α → β) (l : List α) (a : α) : (l ++ [a]).map f = l.map f ++ [f a] := by rw [List.map_append]; rfl
theorem first_ok {M : Nat} {rs : List Int} {s : Option (List Int)} (hM : M ≤ 1000) (h1 : rs.length ≤ 1000) (h0 : rs ≠ []) (hr : ∀ x ∈ rs, 0 ≤ x) (hs : Sta0 M rs s) :
    wpF (e__law_first_known.f [.fz (hou M rs), .fz (stD s)]) fun v _ => ∃ ord ss W, v = .fz (knD ord W) ∧ Kn M rs ord ss W := by
  show wpF (fnOf 8 m__law_first_known _) _
  rw [wpF_fnOf]
  unfold m__law_first_known
  cases s with
  | none =>
    unfold stD
    simp_arith [isNon]
    refine ⟨rfl, (rooms_within_ok (M := M) h1).mono ?_⟩
    rintro _ _ rfl
    simp_arith
    have lr : (roomsW rs).length = rs.length := by unfold roomsW; simp
    refine wp_forL (enc := PyData.int) (fun done rest ρ => done ++ rest = roomsW rs ∧ ∃ x4, ρ = [some (.fz (hou M rs)), some (.fz .none), some (.fz (.int (M : Int))), some (.ow (done.map fun s => tupI (loW M s))), x4, none, none, none]) (fun done r rest ρ h => ?_) (fun done ρ h => ?_) _ [] _ ⟨rfl, _, rfl⟩
    · obtain ⟨e, x4, rfl⟩ := h
      have ld : done.length < 16777216 := by
        have := congrArg List.length e
        rw [List.length_append, lr] at this
        omega
      unfold b1__law_first_known
      simp_arith
      rw [show rngOf [PyData.int ((M : Int) + 1)] = some ((List.range (M + 1)).map fun (k : Nat) => PyData.int (k : Int)) from rngOf1 (n := M + 1) (by omega), wpV_some]
      simp_arith
      refine wp_compP (enc := fun (k : Nat) => PyData.int (k : Int)) (g := fun c => [.int (max 0 (r - ((M : Int) - (c : Int))))]) (fun c hc => ?_) ?_
      · simp_arith
      · have ec : ((List.range (M + 1)).flatMap fun (c : Nat) => [PyData.int (max 0 (r - ((M : Int) - (c : Int))))]) = intsD (loW M r) := by
          rw [flat1]
          unfold loW intsD
          rw [List.map_map]
          rfl
        rw [ec]
        simp_arith [ld]
        exact ⟨by rw [List.append_assoc]; exact e, some (.fz (.int r)), by rw [map_snoc]⟩
    · obtain ⟨e, x4, rfl⟩ := h
      rw [List.append_nil] at e
      subst e
      simp_arith [rngOf1 (show M ≤ 1000000 by omega)]
      refine ⟨List.range M, _, _, ?_, kn_none h0 hr (hs.no rfl)⟩
      unfold knD rowsD
      rw [List.map_map]
      rfl
  | some st =>
    have hS := hs.st st rfl
    obtain ⟨ord, eo, po⟩ := sortRow_ok hS.len hM
    unfold stD
    simp_arith [isNon, eo]
    refine ⟨rfl, (sizes_ok (rs := rs) hS.len hM h1).mono ?_⟩
    rintro _ _ rfl
    simp_arith
    have lr : (sizesL rs st).length = rs.length := by unfold sizesL; simp
    refine wp_forL (enc := PyData.int) (fun done rest ρ => done ++ rest = sizesL rs st ∧ ∃ x7, ρ = [some (.fz (hou M rs)), some (.fz (tupI st)), some (.fz (.int (M : Int))), some (.ow (done.map fun s => tupI (hiW M s))), none, none, some (.fz (.tuple (natsD ord))), x7]) (fun done r rest ρ h => ?_) (fun done ρ h => ?_) _ [] _ ⟨rfl, _, rfl⟩
    · obtain ⟨e, x7, rfl⟩ := h
      have ld : done.length < 16777216 := by
        have := congrArg List.length e
        rw [List.length_append, lr] at this
        omega
      unfold b2__law_first_known
      simp_arith
      rw [show rngOf [PyData.int ((M : Int) + 1)] = some ((List.range (M + 1)).map fun (k : Nat) => PyData.int (k : Int)) from rngOf1 (n := M + 1) (by omega), wpV_some]
      simp_arith
      refine wp_compP (enc := fun (k : Nat) => PyData.int (k : Int)) (g := fun c => [.int (min (c : Int) r)]) (fun c hc => ?_) ?_
      · simp_arith
      · have ec : ((List.range (M + 1)).flatMap fun (c : Nat) => [PyData.int (min (c : Int) r)]) = intsD (hiW M r) := by
          rw [flat1]
          unfold hiW intsD
          rw [List.map_map]
          rfl
        rw [ec]
        simp_arith [ld]
        exact ⟨by rw [List.append_assoc]; exact e, some (.fz (.int r)), by rw [map_snoc]⟩
    · obtain ⟨e, x7, rfl⟩ := h
      rw [List.append_nil] at e
      subst e
      simp_arith
      refine ⟨ord, _, _, ?_, kn_some h0 hS po⟩
      unfold knD rowsD
      rw [List.map_map]
      rfl
end FW

/-! FwQ: led on, in plain lists. -/
namespace FW
open PySem FK
def lessI (f : Int) (k : Nat) : Int := if f ≤ (k : Int) then 1 else 0
def ledS (f : Int) : Nat → List Int → List Int
  | _, [] => []
  | k, s :: ss => (s - lessI f k) :: ledS f (k + 1) ss
def fullI (f : Int) (k : Nat) (cap s : Int) : Int := if (k : Int) < f ∧ s = cap then 1 else 0
def askS (f : Int) : Nat → Int → List Int → List Int → List Int
  | k, cap, r :: rs, s :: ss => (max 0 (s - fullI f k (cap + r) s) + 1) :: askS f (k + 1) (cap + r) rs ss
  | _, _, _, _ => []
def askw (l : Int) (w : List Int) : List Int := 0 :: w.map fun x => max 0 (x - l) + 1
def askW (f : Int) : Nat → Int → List Int → List Int → List (List Int) → List (List Int)
  | k, cap, r :: rs, s :: ss, w :: ws => askw (fullI f k (cap + r) s) w :: askW f (k + 1) (cap + r) rs ss ws
  | _, _, _, _, _ => []
def strw (w : List Int) : List Int := w ++ [w.getLastD 0]
theorem getD_map {w : List Int} {g : Int → Int} {p : Nat} (h : p < w.length) : (w.map g).getD p 0 = g (w.getD p 0) := by
  rw [List.getD_eq_getElem?_getD, List.getD_eq_getElem?_getD, List.getElem?_map, List.getElem?_eq_getElem h]
  rfl
theorem ask_wd {m : Nat} {s l : Int} {w : List Int} (h : Wd m s w) (hl : l = 0 ∨ l = 1) : Wd (m + 1) (max 0 (s - l) + 1) (askw l w) := by
  have g : ∀ p, p ≤ m → (askw l w).getD (p + 1) 0 = max 0 (w.getD p 0 - l) + 1 := fun p hp => by
    unfold askw
    rw [getD_cons_succ', getD_map (by rw [h.len]; omega)]
  have g0 : (askw l w).getD 0 0 = 0 := rfl
  refine ⟨by unfold askw; simp [h.len], g0, fun p hp => ?_, fun p hp => ?_, ?_⟩
  · cases p with
    | zero => rw [g0, g 0 (by omega)]; omega
    | succ p =>
      rw [g p (by omega), g (p + 1) (by omega)]
      have := h.up p (by omega)
      omega
  · cases p with
    | zero => rw [g0, g 0 (by omega), h.z]; omega
    | succ p =>
      rw [g p (by omega), g (p + 1) (by omega)]
      have := h.by1 p (by omega)
      omega
  · rw [g m (by omega), h.top]
theorem ask_nx {m : Nat} {s s' l l' : Int} {w w' : List Int} (h : Wd m s w) (h' : Wd m s' w') (n : Nx m s w s' w') (hl : l = 0 ∨ l = 1) (hl' : l' = 0 ∨ l' = 1) (hll : l' ≤ l) : Nx (m + 1) (max 0 (s - l) + 1) (askw l w) (max 0 (s' - l') + 1) (askw l' w') := fun p hp => by
  have ns := n 0 (Nat.zero_le m)
  cases p with
  | zero =>
    show (0 : Int) ≤ 0 ∧ (0 : Int) - 0 ≤ _
    omega
  | succ p =>
    unfold askw
    rw [getD_cons_succ', getD_cons_succ', getD_map (by rw [h.len]; omega), getD_map (by rw [h'.len]; omega)]
    have := n p (by omega)
    have := h.nn (p := p) (by omega)
    have := h.les (p := p) (by omega)
    have := h'.les (p := p) (by omega)
    omega
theorem strw_get {m : Nat} {s : Int} {w : List Int} (h : Wd m s w) : (strw w).length = m + 2 ∧ (∀ p, p ≤ m → (strw w).getD p 0 = w.getD p 0) ∧ (strw w).getD (m + 1) 0 = s := by
  have e : w.getLastD 0 = s := by
    rw [← h.top, List.getLastD_eq_getLast?, List.getLast?_eq_getElem?, h.len, List.getD_eq_getElem?_getD]
    rfl
  unfold strw
  rw [e]
  refine ⟨by rw [List.length_append, h.len]; rfl, fun p hp => ?_, ?_⟩
  · rw [List.getD_eq_getElem?_getD, List.getD_eq_getElem?_getD, List.getElem?_append_left (by rw [h.len]; omega)]
  · rw [List.getD_eq_getElem?_getD, List.getElem?_append_right (by rw [h.len]; omega), h.len]
    simp
theorem str_wd {m : Nat} {s : Int} {w : List Int} (h : Wd m s w) : Wd (m + 1) s (strw w) := by
  obtain ⟨g1, g2, g3⟩ := strw_get h
  refine ⟨g1, by rw [g2 0 (Nat.zero_le m), h.z], fun p hp => ?_, fun p hp => ?_, g3⟩
  · by_cases c : p = m
    · subst c; rw [g2 p (Nat.le_refl p), g3, h.top]; exact Int.le_refl _
    · rw [g2 p (by omega), g2 (p + 1) (by omega)]; exact h.up p (by omega)
  · by_cases c : p = m
    · subst c; rw [g2 p (Nat.le_refl p), g3, h.top]; omega
    · rw [g2 p (by omega), g2 (p + 1) (by omega)]; exact h.by1 p (by omega)
theorem str_nx {m : Nat} {s s' : Int} {w w' : List Int} (h : Wd m s w) (h' : Wd m s' w') (n : Nx m s w s' w') : Nx (m + 1) s (strw w) s' (strw w') := fun p hp => by
  obtain ⟨_, g2, g3⟩ := strw_get h
  obtain ⟨_, k2, k3⟩ := strw_get h'
  by_cases c : p = m + 1
  · subst c
    rw [g3, k3]
    have := n m (Nat.le_refl m)
    have := n 0 (Nat.zero_le m)
    rw [h.top, h'.top] at *
    omega
  · rw [g2 p (by omega), k2 p (by omega)]
    exact n p (by omega)
theorem str_tf {m : Nat} : ∀ {ss : List Int} {ws : List (List Int)}, Tf m ss ws → Tf (m + 1) ss (ws.map strw)
  | [], [], h => h.elim
  | [], _ :: _, h => h.elim
  | [_], [], h => h.elim
  | _ :: _ :: _, [], h => h.elim
  | _ :: _ :: _, [_], h => h.elim
  | [_], _ :: _ :: _, h => h.elim
  | [s], [w], h => str_wd (show Wd m s w from h)
  | s :: s' :: ss, w :: w' :: ws, h => by
    have h' := tf_wd h.2.2 0 s' w' rfl rfl
    exact ⟨str_wd h.1, str_nx h.1 h' h.2.1, str_tf h.2.2⟩
/-- what stands of the sizes at floor k: cap, the rooms ahead of it; a, a1: the size ahead, its lessened one -/
theorem led_leg {f : Int} : ∀ {rs ss : List Int} {k : Nat} {a a1 : Int}, LegS a rs ss → a - lessI f k ≤ a1 → LegS a1 rs (ledS f k ss)
  | [], [], _, _, _, _, _ => trivial
  | [], _ :: _, _, _, _, h, _ => h.elim
  | _ :: _, [], _, _, _, h, _ => h.elim
  | r :: rs, s :: ss, k, a, a1, h, g => by
    refine ⟨by have := h.1; omega, led_leg h.2 ?_⟩
    have : lessI f k ≤ lessI f (k + 1) := by
      unfold lessI
      by_cases c : f ≤ (k : Int)
      · rw [if_pos c, if_pos (by push_cast; omega)]; exact Int.le_refl 1
      · rw [if_neg c]
        by_cases c2 : f ≤ ((k + 1 : Nat) : Int)
        · rw [if_pos c2]; decide
        · rw [if_neg c2]; exact Int.le_refl 0
    omega
theorem full_01 {f : Int} {k : Nat} {cap s : Int} : fullI f k cap s = 0 ∨ fullI f k cap s = 1 := by
  unfold fullI
  split
  · exact .inr rfl
  · exact .inl rfl
/-- ask: the sizes; a the size ahead (not lessened), b the lessened one, c the new one -/
theorem ask_leg {f : Int} : ∀ {rs ss : List Int} {k : Nat} {cap a b c : Int}, (∀ x ∈ rs, 1 ≤ x) → LegS a rs ss → a ≤ cap → b ≤ cap → a - lessI f k ≤ b → 0 ≤ b → (∀ x ∈ ledS f k ss, 0 ≤ x) → 
    (c = b + 1 ∨ (c = b ∧ b = cap)) → 0 ≤ cap → LegS c rs (askS f k cap rs (ledS f k ss))
  | [], [], _, _, _, _, _, _, _, _, _, _, _, _, _, _ => trivial
  | [], _ :: _, _, _, _, _, _, _, h, _, _, _, _, _, _, _ => h.elim
  | _ :: _, [], _, _, _, _, _, _, h, _, _, _, _, _, _, _ => h.elim
  | r :: rs, s :: ss, k, cap, a, b, c, hr, h, h1, h2, h3, h4, h5, h6, h7 => by
    have hr1 := hr r List.mem_cons_self
    have hs := h.1
    have h51 : 0 ≤ s - lessI f k := h5 _ List.mem_cons_self
    have l01 : lessI f k = 0 ∨ lessI f k = 1 := by unfold lessI; split <;> simp
    have mon : lessI f k ≤ lessI f (k + 1) := by
      unfold lessI
      by_cases c : f ≤ (k : Int)
      · rw [if_pos c, if_pos (by push_cast; omega)]; exact Int.le_refl 1
      · rw [if_neg c]
        by_cases c2 : f ≤ ((k + 1 : Nat) : Int)
        · rw [if_pos c2]; decide
        · rw [if_neg c2]; exact Int.le_refl 0
    -- not full: there is room
    have nf : fullI f k (cap + r) (s - lessI f k) = 0 → s - lessI f k + 1 ≤ cap + r := fun z => by
      unfold fullI at z
      unfold lessI at z ⊢
      by_cases c : f ≤ (k : Int)
      · rw [if_pos c]
        omega
      · rw [if_neg c] at z ⊢
        split at z
        · cases z
        · rename_i hn
          by_cases e : s - 0 = cap + r
          · exact absurd ⟨by omega, e⟩ hn
          · omega
    have fl : fullI f k (cap + r) (s - lessI f k) = 1 → s - lessI f k = cap + r := fun z => by
      unfold fullI at z
      split at z
      · rename_i hc; exact hc.2
      · cases z
    show LegS c (r :: rs) ((max 0 (s - lessI f k - fullI f k (cap + r) (s - lessI f k)) + 1) :: askS f (k + 1) (cap + r) rs (ledS f (k + 1) ss))
    rcases full_01 (f := f) (k := k) (cap := cap + r) (s := s - lessI f k) with z | z
    · have := nf z
      rw [z]
      refine ⟨by omega, ask_leg (b := s - lessI f k) (fun x hx => hr x (List.mem_cons_of_mem _ hx)) h.2 (by omega) (by omega) (by omega) h51 (fun x hx => h5 x (List.mem_cons_of_mem _ hx)) (.inl (by omega)) (by omega)⟩
    · have := fl z
      rw [z]
      refine ⟨by omega, ask_leg (b := s - lessI f k) (fun x hx => hr x (List.mem_cons_of_mem _ hx)) h.2 (by omega) (by omega) (by omega) h51 (fun x hx => h5 x (List.mem_cons_of_mem _ hx)) (.inr ⟨by omega, this⟩) (by omega)⟩
theorem ask_tf {m : Nat} {f : Int} : ∀ {rs ss : List Int} {ws : List (List Int)} {k : Nat} {cap b : Int}, LegS b rs ss → b ≤ cap → Tf m ss ws → Tf (m + 1) (askS f k cap rs ss) (askW f k cap rs ss ws)
  | _, [], [], _, _, _, _, _, h => h.elim
  | _, [], _ :: _, _, _, _, _, _, h => h.elim
  | _, [_], [], _, _, _, _, _, h => h.elim
  | _, _ :: _ :: _, [], _, _, _, _, _, h => h.elim
  | _, _ :: _ :: _, [_], _, _, _, _, _, h => h.elim
  | _, [_], _ :: _ :: _, _, _, _, _, _, h => h.elim
  | [], [_], [_], _, _, _, l, _, _ => l.elim
  | [], _ :: _ :: _, _ :: _ :: _, _, _, _, l, _, _ => l.elim
  | [_], _ :: _ :: _, _ :: _ :: _, _, _, _, l, _, _ => l.2.elim
  | r :: _ :: _, [s], [w], _, _, _, l, _, _ => l.2.elim
  | [r], [s], [w], k, cap, b, l, hb, h => ask_wd (show Wd m s w from h) full_01
  | r :: r' :: rs, s :: s' :: ss, w :: w' :: ws, k, cap, b, l, hb, h => by
    have h' := tf_wd h.2.2 0 s' w' rfl rfl
    have l1 := l.1
    have l2 := l.2.1
    refine ⟨ask_wd h.1 full_01, ask_nx h.1 h' h.2.1 full_01 full_01 ?_, ask_tf (k := k + 1) (cap := cap + r) (b := s) l.2 (by omega) h.2.2⟩
    unfold fullI
    by_cases c : ((k + 1 : Nat) : Int) < f ∧ s' = cap + r + r'
    · rw [if_pos c, if_pos ⟨by have := c.1; push_cast at this; omega, by omega⟩]
      exact Int.le_refl 1
    · rw [if_neg c]
      split <;> decide
end FW

/-! FwR: led on, as the law does it. -/
namespace FW
open PySem FK
theorem nats_ints (l : List Nat) : natsD l = intsD (l.map fun (k : Nat) => (k : Int)) := by
  unfold natsD intsD
  rw [List.map_map]
  rfl
theorem idx_cast (l : List Nat) (t : Nat) : (l.map fun (k : Nat) => (k : Int)).idxOf (t : Int) = l.idxOf t := by
  induction l with
  | nil => rfl
  | cons a l ih =>
    rw [List.map_cons, List.idxOf_cons, List.idxOf_cons, ih]
    by_cases c : a = t
    · subst c; simp
    · have : ((a : Int) == (t : Int)) = false := by simp; omega
      have c2 : (a == t) = false := by simp [c]
      rw [this, c2]
theorem idx_nats {l : List Nat} {t : Nat} (h : t ∈ l) : oIndex (.tuple (natsD l)) (.int (t : Int)) = some (.fz (.int (l.idxOf t : Nat))) := by
  rw [nats_ints, idx_T (List.mem_map.mpr ⟨t, h, rfl⟩), idx_cast]
theorem int_bool {b : Bool} : oInt [.bool b] = some (.fz (.int (if b = true then 1 else 0))) := by cases b <;> rfl
def ledRow (p : Nat) (l : Int) (w : List Int) : List Int := w.take p ++ max (w.getD p 0) (w.getD (p + 1) 0 - l) :: (w.drop (p + 2)).map fun x => x - l
theorem ledRow_len {p : Nat} {l : Int} {w : List Int} {m : Nat} (h : w.length = m + 2) (hp : p ≤ m) : (ledRow p l w).length = m + 1 := by
  unfold ledRow
  rw [List.length_append, List.length_cons, List.length_take, List.length_map, List.length_drop]
  omega
def ledRows (f : Int) (p : Nat) : Nat → List (List Int) → List (List Int)
  | _, [] => []
  | k, w :: ws => ledRow p (lessI f k) w :: ledRows f p (k + 1) ws
theorem ledRows_snoc (f : Int) (p : Nat) : ∀ (A : List (List Int)) (w : List Int) (k : Nat), ledRows f p k (A ++ [w]) = ledRows f p k A ++ [ledRow p (lessI f (k + A.length)) w]
  | [], w, k => rfl
  | a :: A, w, k => by
    show ledRow p (lessI f k) a :: ledRows f p (k + 1) (A ++ [w]) = _
    rw [ledRows_snoc f p A w (k + 1), List.length_cons, show k + 1 + A.length = k + (A.length + 1) by omega]
    rfl
theorem ledRows_len (f : Int) (p : Nat) : ∀ (W : List (List Int)) (k : Nat), (ledRows f p k W).length = W.length
  | [], _ => rfl
  | w :: W, k => by
    show (ledRows f p (k + 1) W).length + 1 = _
    rw [ledRows_len f p W (k + 1)]
    rfl
theorem ledRows_all (f : Int) (p : Nat) {m : Nat} (hp : p ≤ m) : ∀ (W : List (List Int)) (k : Nat), (∀ w ∈ W, w.length = m + 2) → Len m (ledRows f p k W)
  | [], _, _ => fun v hv => by cases hv
  | w :: W, k, h => fun v hv => by
    rcases List.mem_cons.mp hv with rfl | hv
    · exact ledRow_len (h w List.mem_cons_self) hp
    · exact ledRows_all f p hp W (k + 1) (fun w hw => h w (List.mem_cons_of_mem _ hw)) v hv
theorem ledS_snoc (f : Int) : ∀ (A : List Int) (s : Int) (k : Nat), ledS f k (A ++ [s]) = ledS f k A ++ [s - lessI f (k + A.length)]
  | [], s, k => rfl
  | a :: A, s, k => by
    show (a - lessI f k) :: ledS f (k + 1) (A ++ [s]) = _
    rw [ledS_snoc f A s (k + 1), List.length_cons, show k + 1 + A.length = k + (A.length + 1) by omega]
    rfl
theorem ledS_len (f : Int) : ∀ (ss : List Int) (k : Nat), (ledS f k ss).length = ss.length
  | [], _ => rfl
  | s :: ss, k => by
    show (ledS f (k + 1) ss).length + 1 = _
    rw [ledS_len f ss (k + 1)]
    rfl
abbrev ledR (M : Nat) (rs : List Int) (ord : List Nat) (W : List (List Int)) (e : Ent) (p : Nat) (sz : List Int) (rows : List (List Int)) (x11 x12 x13 x14 : Option Val) : Rho :=
  [some (.fz (hou M rs)), some (.fz (knD ord W)), some (.fz e.d), some (.fz (.tuple (natsD ord))), some (.fz (rowsD W)), some (.fz (.str e.w)), some (.fz (.int (e.t : Int))), some (.fz (.int e.f)), some (.fz (.int (p : Int))), some (.ow (intsD sz)), some (.ow (rows.map tupI)), x11, x12, x13, x14, none, none, none, none, none]
theorem led_body {m : Nat} {rs : List Int} {ord : List Nat} {W : List (List Int)} {e : Ent} {p k : Nat} {sz : List Int} {rows : List (List Int)} {x13 x14 : Option Val} {w : List Int} {s : Int} (hm : m ≤ 1000) (hp : p ≤ m) (hw : w.length = m + 2) (hk : k < sz.length) (hs : sz[k]? = some s) (hr : rows.length < 1000) :
    wp b1__law_led (ledR (m + 1) rs ord W e p sz rows (some (.fz (.int (k : Int)))) (some (.fz (tupI w))) x13 x14) fun g ρ => g = .nx ∧ ∃ x13 x14, ρ = ledR (m + 1) rs ord W e p (sz.set k (s - lessI e.f k)) (rows ++ [ledRow p (lessI e.f k) w]) (some (.fz (.int (k : Int)))) (some (.fz (tupI w))) x13 x14 := by
  obtain ⟨y, ys, hy⟩ : ∃ y ys, w.drop (p + 1) = y :: ys := by
    cases hd : w.drop (p + 1) with
    | nil =>
      have := congrArg List.length hd
      rw [List.length_drop, List.length_nil] at this
      omega
    | cons y ys => exact ⟨y, ys, rfl⟩
  have hy1 : w.getD (p + 1) 0 = y := by
    have := congrArg (fun z => z[0]?) hy
    rw [List.getElem?_drop] at this
    rw [List.getD_eq_getElem?_getD]
    simp at this ⊢
    rw [this]
    rfl
  have hys : ys = w.drop (p + 2) := by
    have := congrArg List.tail hy
    rw [List.tail_drop] at this
    exact this.symm
  have hl : ys.length ≤ 2000 := by rw [hys, List.length_drop]; omega
  have hr2 : rows.length < 16777216 := by omega
  unfold b1__law_led
  simp_arith [int_bool]
  rw [show (if e.f ≤ (k : Int) then (1 : Int) else 0) = lessI e.f k from rfl]
  generalize hL : lessI e.f k = l
  rw [show cutD (intsD w) (some ((p : Int) + 1)) none = (w.drop (p + 1)).map PyData.int from cut_from PyData.int w (p + 1) ((p : Int) + 1) (by omega), hy]
  refine wp_compP (enc := PyData.int) (g := fun x => [.int (x - l)]) (fun x hx => ?_) ?_
  · simp_arith
  · rw [flat1i]
    have c1 : (w.take p).length + 1 ≤ 16777216 := by rw [List.length_take]; omega
    have c2 : (w.take p).length + 1 + ys.length ≤ 16777216 := by rw [List.length_take]; omega
    simp_arith [cut_first PyData.int w p (p : Int) rfl, getAt_ints (w := w) (k := p) rfl (by omega), hr2, cut_tail, getAt_some hs, putAt_ints hk]
    have et : List.map PyData.int (w.take p) ++ [PyData.int (max (w.getD p 0) (y - l))] ++ List.drop 1 (PyData.int (y - l) :: List.map PyData.int (ys.map fun x => x - l)) = intsD (ledRow p l w) := by
      unfold ledRow intsD
      rw [hy1, ← hys, List.map_append, List.map_cons, List.append_assoc]
      rfl
    refine ⟨by omega, ?_, some (.fz (.int l)), some (.ow (PyData.int (y - l) :: List.map PyData.int (ys.map fun x => x - l))), ?_⟩
    · simp only [List.length_append, List.length_map, List.length_cons, List.length_nil, List.length_drop, List.length_take]
      omega
    · rw [et, ← map_snoc tupI rows (ledRow p l w)]
abbrev knO : Option (List Nat × List (List Int)) → FK.D
  | none => .none
  | some q => knD q.1 q.2
/-- the second loop of led -/
theorem made_body {m : Nat} {rs : List Int} {k : Nat} {ρ0 : Rho} : True := trivial
theorem sum_take (rs : List Int) (k : Nat) : (rs.take (k + 1)).sum = (rs.take k).sum + rs.getD k 0 := by
  by_cases h : k < rs.length
  · rw [List.take_succ, List.getElem?_eq_getElem h, List.sum_append, List.getD_eq_getElem?_getD, List.getElem?_eq_getElem h]
    simp
  · rw [List.take_of_length_le (by omega), List.take_of_length_le (by omega), List.getD_eq_getElem?_getD, List.getElem?_eq_none (by omega)]
    simp
/-- what led gives, in plain lists -/
def ledF (rs : List Int) (ord : List Nat) (ss : List Int) (W : List (List Int)) (e : Ent) : Option (List Nat × List Int × List (List Int)) :=
  match tightP (ledRows e.f (ord.idxOf e.t) 0 W) (ledS e.f 0 ss) with
  | none => none
  | some W1 => if e.ask then some (e.t :: (ord.take (ord.idxOf e.t) ++ ord.drop (ord.idxOf e.t + 1)), askS e.f 0 0 rs (ledS e.f 0 ss), askW e.f 0 0 rs (ledS e.f 0 ss) W1)
    else some (ord.take (ord.idxOf e.t) ++ ord.drop (ord.idxOf e.t + 1) ++ [e.t], ledS e.f 0 ss, W1.map strw)
theorem perm_out {ord : List Nat} {t : Nat} (h : t ∈ ord) : (t :: (ord.take (ord.idxOf t) ++ ord.drop (ord.idxOf t + 1))).Perm ord := by
  have hi := List.idxOf_lt_length_iff.mpr h
  have e : ord = ord.take (ord.idxOf t) ++ t :: ord.drop (ord.idxOf t + 1) := by
    have := List.take_append_drop (ord.idxOf t) ord
    rw [List.drop_eq_getElem_cons hi] at this
    rw [List.getElem_idxOf hi] at this
    exact this.symm
  have p : (ord.take (ord.idxOf t) ++ t :: ord.drop (ord.idxOf t + 1)).Perm (t :: (ord.take (ord.idxOf t) ++ ord.drop (ord.idxOf t + 1))) := List.perm_middle
  rw [← e] at p
  exact p.symm
theorem ledF_kn {m : Nat} {rs : List Int} {ord : List Nat} {ss : List Int} {W : List (List Int)} {e : Ent} (hr : ∀ x ∈ rs, 1 ≤ x) (h : Kn (m + 1) rs ord ss W) (ht : e.t < m + 1) {q : List Nat × List Int × List (List Int)} (hq : ledF rs ord ss W e = some q) : Kn (m + 1) rs q.1 q.2.1 q.2.2 := by
  have hm : e.t ∈ ord := h.perm.mem_iff.mpr (List.mem_range.mpr ht)
  have hi := List.idxOf_lt_length_iff.mpr hm
  have hol : ord.length = m + 1 := by rw [h.perm.length_eq, List.length_range]
  unfold ledF at hq
  split at hq
  · cases hq
  · rename_i W1 hW
    have hlen : (ledRows e.f (ord.idxOf e.t) 0 W).length = (ledS e.f 0 ss).length := by rw [ledRows_len, ledS_len, tf_len h.tf]
    have hall : Len m (ledRows e.f (ord.idxOf e.t) 0 W) := ledRows_all e.f _ (by omega) W 0 fun w hw => by
      obtain ⟨i, hi, ei⟩ := List.mem_iff_getElem.mp hw
      have := (tf_wd h.tf i _ w (List.getElem?_eq_getElem (by rw [← tf_len h.tf]; exact hi)) (by rw [List.getElem?_eq_getElem hi, ei])).len
      exact this
    have T1 : Tf m (ledS e.f 0 ss) W1 := tight_tf.mp (tight_of hlen hall hW)
    have L1 : LegS 0 rs (ledS e.f 0 ss) := led_leg h.leg (by unfold lessI; split <;> omega)
    have nn : ∀ x ∈ ledS e.f 0 ss, 0 ≤ x := fun x hx => by
      obtain ⟨i, hi, ei⟩ := List.mem_iff_getElem.mp hx
      have w := tf_wd T1 i x _ (by rw [List.getElem?_eq_getElem hi, ei]) (List.getElem?_eq_getElem (by rw [tf_len T1]; exact hi))
      have := w.nn (Nat.le_refl m)
      rwa [w.top] at this
    split at hq
    · cases hq
      refine ⟨(perm_out hm).trans h.perm, ask_tf L1 (Int.le_refl 0) T1, ?_⟩
      refine ask_leg (a := 0) (b := 0) hr h.leg (Int.le_refl 0) (Int.le_refl 0) (by unfold lessI; split <;> omega) (Int.le_refl 0) nn (.inr ⟨rfl, rfl⟩) (Int.le_refl 0)
    · cases hq
      exact ⟨((List.perm_append_singleton _ _).trans (perm_out hm)).trans h.perm, str_tf T1, L1⟩
end FW

/-! FwS: led, led by a log. -/
namespace FW
open PySem FK
def ledD (q : Option (List Nat × List Int × List (List Int))) : FK.D := match q with
  | none => .none
  | some q => knD q.1 q.2.2
theorem askS_snoc (f : Int) : ∀ (rs ss : List Int) (k : Nat) (cap : Int), rs.length = ss.length → (askS f k cap rs ss).length = ss.length
  | [], [], _, _, _ => rfl
  | r :: rs, s :: ss, k, cap, h => by
    show (askS f (k + 1) (cap + r) rs ss).length + 1 = _
    rw [askS_snoc f rs ss (k + 1) (cap + r) (by simpa using h)]
    rfl
  | [], _ :: _, _, _, h => by cases h
  | _ :: _, [], _, _, h => by cases h
theorem word_strike (e : Ent) (h : e.ask = false) : e.w = "strike" := by unfold Ent.w; rw [h]; rfl
theorem word_ask (e : Ent) (h : e.ask = true) : e.w = "ask" := by unfold Ent.w; rw [h]; rfl
theorem getAt_tup {W : List (List Int)} {k : Nat} {w : List Int} (h : W[k]? = some w) : getAt (k : Int) (W.map tupI) = some (tupI w) := getAt_nat (by rw [List.getElem?_map, h]; rfl)
theorem cut_last1 {α : Type} (g : α → FK.D) (xs : List α) (x : α) : cutD ((xs ++ [x]).map g) (some (-1)) none = [g x] := by
  unfold cutD
  have hl : ((xs ++ [x]).map g).length = xs.length + 1 := by simp
  rw [hl]
  have e1 : HT.sIx (xs.length + 1) 0 (some (-1)) = xs.length := by
    unfold HT.sIx
    simp
    omega
  have e2 : HT.sIx (xs.length + 1) (xs.length + 1) none = xs.length + 1 := rfl
  rw [e1, e2, List.map_append, List.drop_append_of_le_length (by simp), List.drop_eq_nil_of_le (by simp), List.nil_append, show xs.length + 1 - xs.length = 1 by omega]
  rfl
theorem cut_lastW {w : List Int} (h : w ≠ []) : cutD (intsD w) (some (-1)) none = [.int (w.getLastD 0)] := by
  obtain ⟨A, x, rfl⟩ : ∃ A x, w = A ++ [x] := ⟨w.dropLast, w.getLast h, (List.dropLast_concat_getLast h).symm⟩
  rw [show cutD (intsD (A ++ [x])) (some (-1)) none = [PyData.int x] from cut_last1 PyData.int A x]
  simp
theorem askW_snoc (f : Int) : ∀ (rs ss : List Int) (A : List (List Int)) (k : Nat) (cap r s : Int) (w : List Int), rs.length = ss.length → A.length = ss.length → askW f k cap (rs ++ [r]) (ss ++ [s]) (A ++ [w]) = askW f k cap rs ss A ++ [askw (fullI f (k + ss.length) (cap + rs.sum + r) s) w]
  | [], [], [], k, cap, r, s, w, _, _ => by simp [askW]
  | r0 :: rs, s0 :: ss, w0 :: A, k, cap, r, s, w, h1, h2 => by
    show askw _ w0 :: askW f (k + 1) (cap + r0) (rs ++ [r]) (ss ++ [s]) (A ++ [w]) = _
    rw [askW_snoc f rs ss A (k + 1) (cap + r0) r s w (by simpa using h1) (by simpa using h2), List.length_cons, List.sum_cons, show k + 1 + ss.length = k + (ss.length + 1) by omega, show cap + r0 + rs.sum + r = cap + (r0 + rs.sum) + r by omega]
    rfl
  | [], _ :: _, _, _, _, _, _, _, h, _ => by cases h
  | _ :: _, [], _, _, _, _, _, _, h, _ => by cases h
  | [], [], _ :: _, _, _, _, _, _, _, h => by cases h
  | _ :: _, _ :: _, [], _, _, _, _, _, _, h => by cases h
theorem askw_len {l : Int} {w : List Int} : (askw l w).length = w.length + 1 := by unfold askw; simp
abbrev ledR2 (M : Nat) (rs : List Int) (ord : List Nat) (W : List (List Int)) (e : Ent) (p : Nat) (sz : List Int) (rows : List (List Int)) (x11 x12 x13 x14 : Option Val) (W1 : List (List Int)) (rest : List Nat) (made : List (List Int)) (x19 : Option Val) : Rho :=
  [some (.fz (hou M rs)), some (.fz (knD ord W)), some (.fz e.d), some (.fz (.tuple (natsD ord))), some (.fz (rowsD W)), some (.fz (.str e.w)), some (.fz (.int (e.t : Int))), some (.fz (.int e.f)), some (.fz (.int (p : Int))), some (.ow (intsD sz)), some (.ow (rows.map tupI)), x11, x12, x13, x14, none, some (.fz (rowsD W1)), some (.fz (.tuple (natsD rest))), some (.ow (made.map tupI)), x19]
def askTail : MS := (sApp 18 (mBin oAdd (.ex (mTup [(false, (mC (.int 0)))])) (.ex (mFn oTuple [(.ex (mComp [15] (itSeq (mV 12)) (.nm 15) mYes (mBin oAdd (.ex (mFn oMax [(.ex (mC (.int 0))), (.ex (mBin oSub (.nm 15) (.ex (mFn oInt [(.nm 19)]))))])) (.ex (mC (.int 1))))))]))))
theorem ask_body {M : Nat} {rs : List Int} {ord rest : List Nat} {W rows W1 made : List (List Int)} {e : Ent} {p k : Nat} {sz : List Int} {x13 x14 x19 : Option Val} {w : List Int} {s r : Int} (hw : w.length ≤ 2000) (hs : sz[k]? = some s) (hr : rs[k]? = some r) (hm : made.length < 1000) :
    wp b2__law_led (ledR2 M rs ord W e p sz rows (some (.fz (.int (k : Int)))) (some (.fz (tupI w))) x13 x14 W1 rest made x19) fun g ρ => g = .nx ∧ ∃ x19, ρ = ledR2 M rs ord W e p sz rows (some (.fz (.int (k : Int)))) (some (.fz (tupI w))) x13 x14 W1 rest (made ++ [askw (fullI e.f k ((rs.take k).sum + r) s) w]) x19 := by
  have hm2 : made.length < 16777216 := by omega
  have fin : ∀ l : Int, wp askTail (ledR2 M rs ord W e p sz rows (some (.fz (.int (k : Int)))) (some (.fz (tupI w))) x13 x14 W1 rest made (some (.fz (.bool (decide (l = 1))))))
      fun g ρ => (l = 0 ∨ l = 1) → g = .nx ∧ ∃ x19, ρ = ledR2 M rs ord W e p sz rows (some (.fz (.int (k : Int)))) (some (.fz (tupI w))) x13 x14 W1 rest (made ++ [askw l w]) x19 := fun l => by
    have hw2 : 1 + w.length ≤ 16777216 := by omega
    unfold askTail
    simp_arith
    refine wp_compP (enc := PyData.int) (g := fun x => [.int (max 0 (x - (if l = 1 then 1 else 0)) + 1)]) (fun x hx => ?_) ?_
    · simp_arith [int_bool]
    · rw [flat1i]
      simp_arith [hm2, hw2]
      intro hl
      refine ⟨some (.fz (.bool (decide (l = 1)))), ?_⟩
      have el : (if l = 1 then (1 : Int) else 0) = l := by
        rcases hl with rfl | rfl <;> rfl
      rw [el]
      have em : made.map tupI ++ [PyData.tuple (PyData.int 0 :: (w.map fun x => max 0 (x - l) + 1).map PyData.int)] = (made ++ [askw l w]).map tupI := by
        rw [map_snoc]
        rfl
      rw [em]
  have et : decide (fullI e.f k ((rs.take k).sum + r) s = 1) = (decide ((k : Int) < e.f) && decide (s = (rs.take (k + 1)).sum)) := by
    have e1 : (rs.take (k + 1)).sum = (rs.take k).sum + r := by
      rw [sum_take, List.getD_eq_getElem?_getD, hr]
      rfl
    rw [e1]
    unfold fullI
    by_cases c1 : (k : Int) < e.f
    · by_cases c2 : s = (rs.take k).sum + r
      · rw [if_pos ⟨c1, c2⟩, decide_eq_true c1, decide_eq_true c2]; rfl
      · rw [if_neg (fun z => c2 z.2), decide_eq_false c2, Bool.and_false]; rfl
    · rw [if_neg (fun z => c1 z.1), decide_eq_false c1]; rfl
  have fin' := (fin (fullI e.f k ((rs.take k).sum + r) s)).mono fun g ρ h => h full_01
  rw [et] at fin'
  unfold b2__law_led
  rw [show (sApp 18 (mBin oAdd (.ex (mTup [(false, (mC (.int 0)))])) (.ex (mFn oTuple [(.ex (mComp [15] (itSeq (mV 12)) (.nm 15) mYes (mBin oAdd (.ex (mFn oMax [(.ex (mC (.int 0))), (.ex (mBin oSub (.nm 15) (.ex (mFn oInt [(.nm 19)]))))])) (.ex (mC (.int 1))))))])))) = askTail from rfl]
  simp_arith [getAt_some hs, cut_first PyData.int rs (k + 1) ((k : Int) + 1) (by omega), sum_T]
  by_cases c1 : (k : Int) < e.f
  · rw [decide_eq_true c1, Bool.true_and] at fin'
    rw [if_pos c1]
    exact fin'
  · rw [decide_eq_false c1, Bool.false_and] at fin'
    rw [if_neg c1]
    exact fin'
theorem led_ok {m : Nat} {rs : List Int} {ord : List Nat} {ss : List Int} {W : List (List Int)} {e : Ent} (hm : m + 1 ≤ 1000) (h1 : rs.length ≤ 999) (h : Kn (m + 1) rs ord ss W) (ht : e.t < m + 1) :
    wpF (e__law_led.f [.fz (hou (m + 1) rs), .fz (knD ord W), .fz e.d]) fun v _ => v = .fz (ledD (ledF rs ord ss W e)) := by
  have hmem : e.t ∈ ord := h.perm.mem_iff.mpr (List.mem_range.mpr ht)
  have hi := List.idxOf_lt_length_iff.mpr hmem
  have hol : ord.length = m + 1 := by rw [h.perm.length_eq, List.length_range]
  have hWl := tf_len h.tf
  have hrl := h.leg.len
  have wl : ∀ (k : Nat) (w : List Int), W[k]? = some w → w.length = m + 2 := fun k w e => by
    have hk : k < W.length := (List.getElem?_eq_some_iff.mp e).1
    exact (tf_wd h.tf k _ w (List.getElem?_eq_getElem (by omega)) e).len
  have wne : ∀ w ∈ W, w ≠ [] := fun w hw z => by
    obtain ⟨i, hi, ei⟩ := List.mem_iff_getElem.mp hw
    have := wl i w (by rw [List.getElem?_eq_getElem hi, ei])
    rw [z] at this
    cases this
  have hlen : (ledRows e.f (ord.idxOf e.t) 0 W).length = (ledS e.f 0 ss).length := by rw [ledRows_len, ledS_len, hWl]
  have hall : Len m (ledRows e.f (ord.idxOf e.t) 0 W) := ledRows_all e.f _ (by omega) W 0 fun w hw => by
    obtain ⟨i, hi, ei⟩ := List.mem_iff_getElem.mp hw
    exact wl i w (by rw [List.getElem?_eq_getElem hi, ei])
  have hW0 : W ≠ [] := fun z => by
    rw [z] at hWl
    have : ss = [] := List.length_eq_zero_iff.mp hWl.symm
    have t := h.tf
    rw [z, this] at t
    exact t
  have hne : ledRows e.f (ord.idxOf e.t) 0 W ≠ [] := fun z => hW0 (List.length_eq_zero_iff.mp (by rw [← ledRows_len e.f (ord.idxOf e.t) W 0, z]; rfl))
  show wpF (fnOf 20 m__law_led _) _
  rw [wpF_fnOf]
  unfold m__law_led
  simp_arith [idx_nats hmem]
  refine ⟨rfl, (law_known_sizes_ok (o := .tuple (natsD ord)) wne).mono ?_⟩
  rintro _ _ rfl
  rw [tf_lasts h.tf]
  simp_arith
  refine wp_enum (enc := tupI) (fun k rest ρ => ∃ A x11 x12 x13 x14, W = A ++ rest ∧ A.length = k ∧ isOwn (some x12) = false ∧ ρ = ledR (m + 1) rs ord W e (ord.idxOf e.t) (ledS e.f 0 (ss.take k) ++ ss.drop k) (ledRows e.f (ord.idxOf e.t) 0 A) x11 x12 x13 x14) (fun k w rest ρ hI => ?_) (fun k ρ hI => ?_) ⟨[], none, none, none, none, rfl, rfl, rfl, rfl⟩
  · obtain ⟨A, x11, x12, x13, x14, e1, e2, h12, rfl⟩ := hI
    have hk : k < W.length := by rw [e1, List.length_append, List.length_cons]; omega
    have hw : W[k]? = some w := by rw [e1, List.getElem?_append_right (by omega), e2]; simp
    have hkS : k < ss.length := by omega
    have hsz : (ledS e.f 0 (ss.take k) ++ ss.drop k)[k]? = some ss[k] := by
      have l0 : (ledS e.f 0 (ss.take k)).length = k := by rw [ledS_len, List.length_take]; omega
      rw [List.getElem?_append_right (by omega), l0, Nat.sub_self, List.getElem?_drop]
      simp [hkS]
    simp_arith
    refine (led_body (m := m) (s := ss[k]) (by omega) (by omega) (wl k w hw) (by rw [List.length_append, ledS_len, List.length_take, List.length_drop]; omega) hsz (by rw [ledRows_len]; omega)).mono ?_
    rintro _ _ ⟨rfl, y13, y14, rfl⟩
    refine ⟨A ++ [w], some (.fz (.int (k : Int))), some (.fz (tupI w)), y13, y14, by rw [e1, List.append_assoc]; rfl, by rw [List.length_append, e2]; rfl, rfl, ?_⟩
    have es : (ledS e.f 0 (ss.take k) ++ ss.drop k).set k (ss[k] - lessI e.f k) = ledS e.f 0 (ss.take (k + 1)) ++ ss.drop (k + 1) := by
      have l0 : (ledS e.f 0 (ss.take k)).length = k := by rw [ledS_len, List.length_take]; omega
      rw [List.set_append_right _ _ (by omega), l0, Nat.sub_self, List.drop_eq_getElem_cons hkS, List.set_cons_zero, List.take_succ, List.getElem?_eq_getElem hkS]
      show _ = ledS e.f 0 (ss.take k ++ [ss[k]]) ++ _
      rw [ledS_snoc, List.length_take, Nat.min_eq_left (by omega), Nat.zero_add, List.append_assoc]
      rfl
    rw [es, ledRows_snoc, e2, Nat.zero_add]
  · obtain ⟨A, x11, x12, x13, x14, e1, e2, h12, rfl⟩ := hI
    rw [List.append_nil] at e1
    subst e1
    rw [e2.symm, hWl, List.take_length, List.drop_length, List.append_nil]
    simp_arith
    refine ⟨rfl, (lawT_ok (ledRows e.f (ord.idxOf e.t) 0 W) (ledS e.f 0 ss) m hne hlen (by rw [ledRows_len]; omega) (by omega) hall).mono ?_⟩
    rintro _ _ rfl
    unfold ledF
    cases hT : tightP (ledRows e.f (ord.idxOf e.t) 0 W) (ledS e.f 0 ss) with
    | none =>
      unfold noneOr
      simp_arith [isNon]
      rfl
    | some W1 =>
      unfold noneOr
      simp_arith [isNon]
      have c1 : cutD (natsD ord) none (some ((ord.idxOf e.t : Nat) : Int)) = natsD (ord.take (ord.idxOf e.t)) := cut_first _ _ _ _ rfl
      have c2 : cutD (natsD ord) (some (((ord.idxOf e.t : Nat) : Int) + 1)) none = natsD (ord.drop (ord.idxOf e.t + 1)) := cut_from _ _ _ _ (by push_cast; rfl)
      have T1 := tight_tf.mp (tight_of hlen hall hT)
      have l1 := tf_len T1
      have w1 : ∀ w ∈ W1, w.length = m + 1 := fun w hw => by
        obtain ⟨i, hi, ei⟩ := List.mem_iff_getElem.mp hw
        exact (tf_wd T1 i _ w (List.getElem?_eq_getElem (by omega)) (by rw [List.getElem?_eq_getElem hi, ei])).len
      rw [c1, c2]
      have ea : natsD (ord.take (ord.idxOf e.t)) ++ natsD (ord.drop (ord.idxOf e.t + 1)) = natsD (ord.take (ord.idxOf e.t) ++ ord.drop (ord.idxOf e.t + 1)) := by
        unfold natsD
        rw [List.map_append]
      rw [ea]
      refine ⟨by unfold natsD; rw [List.length_map, List.length_map, List.length_take, List.length_drop]; omega, ?_⟩
      have rl : (ord.take (ord.idxOf e.t) ++ ord.drop (ord.idxOf e.t + 1)).length = m := by
        rw [List.length_append, List.length_take, List.length_drop]; omega
      generalize hrest : ord.take (ord.idxOf e.t) ++ ord.drop (ord.idxOf e.t + 1) = rest at rl
      have rl2 : rest.length + 1 ≤ 16777216 := by omega
      have rl3 : 1 + rest.length ≤ 16777216 := by omega
      cases hb : e.ask with
      | false =>
        rw [show oEq (.str e.w) (.str "strike") = some (.fz (.bool true)) by rw [word_strike e hb, str_eq]; rfl]
        simp_arith
        refine ⟨by omega, by rw [h12]; rfl, ?_⟩
        refine wp_compP (enc := tupI) (g := fun w => [tupI (strw w)]) (fun w hw => ?_) ?_
        · have hl := w1 w hw
          have hz : w.length + 1 ≤ 16777216 := by omega
          simp_arith [cut_lastW (w := w) (fun z => by rw [z] at hl; cases hl), hz]
          unfold strw
          have e1 : intsD w ++ [PyData.int (w.getLastD 0)] = intsD (w ++ [w.getLastD 0]) := (map_snoc PyData.int w _).symm
          rw [e1]
        · rw [flat1]
          simp_arith
          unfold ledD knD rowsD
          show Val.fz (PyData.tuple [PyData.tuple (natsD rest ++ [PyData.int (e.t : Int)]), PyData.tuple (W1.map fun w => tupI (strw w))]) = Val.fz (PyData.tuple [PyData.tuple (natsD (rest ++ [e.t])), PyData.tuple ((W1.map strw).map tupI)])
          rw [List.map_map, show natsD (rest ++ [e.t]) = natsD rest ++ [PyData.int (e.t : Int)] from map_snoc _ rest e.t]
          rfl
      | true =>
        rw [show oEq (.str e.w) (.str "strike") = some (.fz (.bool false)) by rw [word_ask e hb, str_eq]; rfl]
        simp_arith
        have hlS : (ledS e.f 0 ss).length = ss.length := ledS_len _ _ _
        refine wp_enum (enc := tupI) (fun k rest1 ρ => ∃ A x11 x12 x19, W1 = A ++ rest1 ∧ A.length = k ∧ ρ = ledR2 (m + 1) rs ord W e (ord.idxOf e.t) (ledS e.f 0 ss) (ledRows e.f (ord.idxOf e.t) 0 W) x11 x12 x13 x14 W1 rest (askW e.f 0 0 (rs.take k) ((ledS e.f 0 ss).take k) A) x19) (fun k w rest1 ρ hI => ?_) (fun k ρ hI => ?_) ⟨[], x11, x12, none, rfl, rfl, rfl⟩
        · obtain ⟨A, y11, y12, y19, e1', e2', rfl⟩ := hI
          have hk : k < W1.length := by rw [e1', List.length_append, List.length_cons]; omega
          have hw : w ∈ W1 := by rw [e1']; simp
          have hs : (ledS e.f 0 ss)[k]? = some ((ledS e.f 0 ss)[k]'(by omega)) := List.getElem?_eq_getElem (by omega)
          have hr : rs[k]? = some (rs[k]'(by omega)) := List.getElem?_eq_getElem (by omega)
          generalize (ledS e.f 0 ss)[k]'(by omega) = s1 at hs
          generalize rs[k]'(by omega) = r1 at hr
          have hml : (askW e.f 0 0 (rs.take k) ((ledS e.f 0 ss).take k) A).length < 1000 := by
            have : ∀ (rs ss : List Int) (A : List (List Int)) (k : Nat) (cap : Int), (askW e.f k cap rs ss A).length ≤ A.length := fun rs => by
              induction rs with
              | nil => intro ss A k cap; simp [askW]
              | cons r rs ih =>
                intro ss A k cap
                cases ss with
                | nil => simp [askW]
                | cons s ss =>
                  cases A with
                  | nil => simp [askW]
                  | cons a A =>
                    show (askW e.f (k + 1) (cap + r) rs ss A).length + 1 ≤ A.length + 1
                    have := ih ss A (k + 1) (cap + r)
                    omega
            have := this (rs.take k) ((ledS e.f 0 ss).take k) A 0 0
            omega
          simp_arith
          refine (ask_body (by have := w1 w hw; omega) hs hr hml).mono ?_
          rintro _ _ ⟨rfl, z19, rfl⟩
          refine ⟨A ++ [w], some (.fz (.int (k : Int))), some (.fz (tupI w)), z19, by rw [e1', List.append_assoc]; rfl, by rw [List.length_append, e2']; rfl, ?_⟩
          have ek : askW e.f 0 0 (rs.take (k + 1)) ((ledS e.f 0 ss).take (k + 1)) (A ++ [w]) = askW e.f 0 0 (rs.take k) ((ledS e.f 0 ss).take k) A ++ [askw (fullI e.f k ((rs.take k).sum + r1) s1) w] := by
            rw [List.take_succ, hr, List.take_succ, hs]
            show askW e.f 0 0 (rs.take k ++ [r1]) ((ledS e.f 0 ss).take k ++ [s1]) (A ++ [w]) = _
            rw [askW_snoc e.f (rs.take k) ((ledS e.f 0 ss).take k) A 0 0 r1 s1 w (by rw [List.length_take, List.length_take]; omega) (by rw [List.length_take]; omega), List.length_take, Nat.min_eq_left (by omega), Nat.zero_add, Int.zero_add]
          rw [ek]
        · obtain ⟨A, y11, y12, y19, e1', e2', rfl⟩ := hI
          rw [List.append_nil] at e1'
          subst e1'
          have hk1 : k = rs.length := by omega
          rw [hk1, List.take_length, show (ledS e.f 0 ss).take rs.length = ledS e.f 0 ss from List.take_of_length_le (by omega)]
          simp_arith [rl3]
          rfl
theorem led_by_ok {m : Nat} {rs : List Int} (hm : m + 1 ≤ 1000) (h1 : rs.length ≤ 999) (hr : ∀ x ∈ rs, 1 ≤ x) {ord : List Nat} {ss : List Int} {W : List (List Int)} {log : List Ent} (h : Kn (m + 1) rs ord ss W) (hlog : ∀ e ∈ log, e.t < m + 1) :
    wpF (e__law_led_by.f [.fz (hou (m + 1) rs), .fz (knD ord W), .fz (.tuple (log.map Ent.d))]) fun v _ => ∃ ord' ss' W' d, v = .fz (.tuple [knD ord' W', d]) ∧ Kn (m + 1) rs ord' ss' W' := by
  show wpF (fnOf 6 m__law_led_by _) _
  rw [wpF_fnOf]
  unfold m__law_led_by
  simp_arith
  refine wp_enum (enc := Ent.d) (fun k rest ρ => (∀ e ∈ rest, e.t < m + 1) ∧ ∃ ord ss W x3 x4 x5, Kn (m + 1) rs ord ss W ∧ ρ = [some (.fz (hou (m + 1) rs)), some (.fz (knD ord W)), some (.fz (.tuple (log.map Ent.d))), x3, x4, x5]) (fun k e rest ρ hI => ?_) (fun k ρ hI => ?_) ⟨hlog, ord, ss, W, none, none, none, h, rfl⟩
  · obtain ⟨he, ord, ss, W, x3, x4, x5, hK, rfl⟩ := hI
    unfold b1__law_led_by
    simp_arith
    refine ⟨rfl, (led_ok hm h1 hK (he e List.mem_cons_self)).mono ?_⟩
    rintro _ _ rfl
    cases hq : ledF rs ord ss W e with
    | none =>
      unfold ledD
      simp_arith [isNon]
      exact ⟨ord, ss, W, _, rfl, hK⟩
    | some q =>
      have hK2 := ledF_kn hr hK (he e List.mem_cons_self) hq
      unfold ledD
      simp_arith [isNon]
      exact ⟨fun e' h' => he e' (List.mem_cons_of_mem _ h'), q.1, q.2.1, q.2.2, _, _, _, hK2, rfl⟩
  · obtain ⟨_, ord, ss, W, x3, x4, x5, hK, rfl⟩ := hI
    simp_arith
    exact ⟨ord, ss, W, _, rfl, hK⟩
end FW

/-! FwT: a tight knowledge, drawn. -/
namespace FW
open PySem FK
theorem legS_snoc : ∀ {rs ss : List Int} {a l r s : Int}, LegS a rs ss → (ss.getLast?.getD a = l) → s - l ≤ r → LegS a (rs ++ [r]) (ss ++ [s])
  | [], [], a, l, r, s, _, h, g => by
    have : a = l := h
    exact ⟨by omega, trivial⟩
  | r0 :: rs, s0 :: ss, a, l, r, s, h, e, g => by
    refine ⟨h.1, legS_snoc (l := l) h.2 ?_ g⟩
    cases ss with
    | nil => simpa using e
    | cons x xs =>
      rw [List.getLast?_cons_cons] at e
      rw [← e]
      cases hx : (x :: xs).getLast? with
      | none => simp at hx
      | some y => rfl
  | [], _ :: _, _, _, _, _, h, _, _ => h.elim
  | _ :: _, [], _, _, _, _, h, _, _ => h.elim
/-- sizes that fit m things -/
structure Sz (m : Nat) (ss : List Int) : Prop where
  nil : ss ≠ []
  up : upF 0 ss
  le : ∀ x ∈ ss, x ≤ (m : Int)
theorem upF_snoc : ∀ {ss : List Int} {a x : Int}, upF a ss → a ≤ x → (∀ y ∈ ss, y ≤ x) → upF a (ss ++ [x])
  | [], a, x, _, h, _ => ⟨h, trivial⟩
  | s :: ss, a, x, u, h, g => ⟨u.1, upF_snoc u.2 (g s (List.mem_cons_self ..)) fun y hy => g y (List.mem_cons_of_mem _ hy)⟩
theorem upF_nn : ∀ {ss : List Int} {a : Int}, upF a ss → ∀ y ∈ ss, a ≤ y
  | s :: ss, a, u, y, hy => by
    rcases List.mem_cons.mp hy with rfl | hy
    · exact u.1
    · have := upF_nn u.2 y hy
      have := u.1
      omega
/-- a row that is drawn -/
theorem b2_known {b : Bag} {m : Nat} {mi : Int} {rs : List Int} {O S x5 x6 x9 x10 x11 x8 : Option Val} {s : Int} {rows : List (List Int)} (hmi : mi = (m : Int)) (hb : b.cells.length ≤ 1000) (hm : m ≤ 100) (hs : 0 ≤ s ∧ s ≤ (m : Int)) (hr : rows.length ≤ 1000) (h9 : isOwn (some x9) = false) (h10 : isOwn (some x10) = false) :
    wp b2__law_tight_known [some (.ow b.d), some (.fz (.tuple [.int mi, tupI rs])), O, S, some (.fz (.int s)), x5, x6, some (.ow (rows.map tupI)), x8, x9, x10, x11] fun f ρ => f = .nx ∧ ∃ r, ∃ b' : Bag, ∃ x8, r.length = m + 1 ∧ b'.cells.length ≤ 1000 ∧
      ρ = [some (.ow b'.d), some (.fz (.tuple [.int mi, tupI rs])), O, S, some (.fz (.int s)), x5, x6, some (.ow ((rows ++ [r]).map tupI)), x8, x9, x10, x11] := by
  have hm3 : m + 1 ≤ 1000000 := by omega
  have eM : mi + 1 = ((m + 1 : Nat) : Int) := by omega
  have lr : rows.length < 16777216 := by omega
  unfold b2__law_tight_known
  rw [wp_sSeq]
  refine wp.mono (Q := fun f ρ => f = .nx ∧ ∃ P : List (Int × Nat), ∃ b' : Bag, P.length = m + 1 ∧ b'.cells.length ≤ 1000 ∧ (∀ q ∈ P, q.2 ≤ m) ∧
    ρ = [some (.ow b'.d), some (.fz (.tuple [.int mi, tupI rs])), O, S, some (.fz (.int s)), x5, x6, some (.ow (rows.map tupI)), some (.ow (P.map fun q => PyData.tuple [.int q.1, .int (q.2 : Int)])), x9, x10, x11]) ?_ ?_
  · simp_arith [eM, rng_one hm3, h9]
    refine (wp_compL (enc := fun (k : Nat) => PyData.int (k : Int)) (Q := fun out ρ => ∃ P : List (Int × Nat), ∃ b' : Bag, out = (P.map fun q => PyData.tuple [.int q.1, .int (q.2 : Int)]) ∧ P.length = m + 1 ∧ b'.cells.length ≤ 1000 ∧ (∀ q ∈ P, q.2 ≤ m) ∧
      ρ = [some (.ow b'.d), some (.fz (.tuple [.int mi, tupI rs])), O, S, some (.fz (.int s)), x5, x6, some (.ow (rows.map tupI)), x8, none, x10, x11])
      (fun done rest out ρ => ∃ P : List (Int × Nat), ∃ b' : Bag, out = (P.map fun q => PyData.tuple [.int q.1, .int (q.2 : Int)]) ∧ P.length = done.length ∧ done ++ rest = List.range (m + 1) ∧ b'.cells.length ≤ 1000 ∧ (∀ q ∈ P, q.2 ≤ m) ∧
      ρ = [some (.ow b'.d), some (.fz (.tuple [.int mi, tupI rs])), O, S, some (.fz (.int s)), x5, x6, some (.ow (rows.map tupI)), x8, none, x10, x11]) (fun done a rest out ρ h => ?_) (fun done out ρ h => ?_) (List.range (m + 1)) [] [] _ ⟨[], b, rfl, rfl, rfl, hb, (fun _ h => nomatch h), rfl⟩).mono ?_
    · obtain ⟨P, b', rfl, e1, e2, hb', e3, rfl⟩ := h
      have ha : a ≤ m := by
        have : a ∈ List.range (m + 1) := by rw [← e2]; simp
        have := List.mem_range.mp this
        omega
      simp_arith
      refine ⟨rfl, (tk hb' (n := 3) (by omega) (by omega)).mono ?_⟩
      rintro _ _ ⟨k, b2, k0, k1, rfl, rfl, hb2⟩
      simp_arith
      refine ⟨P ++ [(k, a)], b2, by rw [List.map_append]; rfl, by rw [List.length_append, List.length_append, e1]; rfl, by rw [List.append_assoc]; exact e2, hb2, fun q hq => ?_, rfl⟩
      rcases List.mem_append.mp hq with hq | hq
      · exact e3 q hq
      · rw [List.mem_singleton.mp hq]; exact ha
    · obtain ⟨P, b', rfl, e1, e2, hb', e3, rfl⟩ := h
      refine ⟨P, b', rfl, ?_, hb', e3, rfl⟩
      rw [e1, ← List.append_nil done, e2, List.length_range]
    · rintro r ρ ⟨P, b', e0, e1, hb', e3, rfl⟩
      rw [List.nil_append] at e0
      subst e0
      simp_arith
      exact ⟨P, b', e1, hb', e3, rfl⟩
  · rintro _ _ ⟨rfl, P, b', e1, hb', e3, rfl⟩
    simp_arith [h9, h10]
    refine (wp_compL (enc := fun (q : Int × Nat) => PyData.tuple [.int q.1, .int (q.2 : Int)]) (Q := fun out ρ => ∃ r, ∃ b' : Bag, out = intsD r ∧ r.length = m + 1 ∧ b'.cells.length ≤ 1000 ∧
      ρ = [some (.ow b'.d), some (.fz (.tuple [.int mi, tupI rs])), O, S, some (.fz (.int s)), x5, x6, some (.ow (rows.map tupI)), some (.fz (.list (P.map fun q => PyData.tuple [.int q.1, .int (q.2 : Int)]))), none, none, x11])
      (fun done rest out ρ => ∃ r, ∃ b' : Bag, out = intsD r ∧ r.length = done.length ∧ done ++ rest = P ∧ b'.cells.length ≤ 1000 ∧
      ρ = [some (.ow b'.d), some (.fz (.tuple [.int mi, tupI rs])), O, S, some (.fz (.int s)), x5, x6, some (.ow (rows.map tupI)), some (.fz (.list (P.map fun q => PyData.tuple [.int q.1, .int (q.2 : Int)]))), none, none, x11]) (fun done a rest out ρ h => ?_) (fun done out ρ h => ?_) P [] [] _ ⟨[], b', rfl, rfl, rfl, hb', rfl⟩).mono ?_
    · obtain ⟨r, b2, rfl, g1, g2, hb2, rfl⟩ := h
      have ha : a.2 ≤ m := e3 a (by rw [← g2]; simp)
      obtain ⟨k, q⟩ := a
      simp_arith
      by_cases c : k = 0
      · rw [if_pos c]
        refine ⟨rfl, (tk hb2 (n := (q : Int) + 1) (by omega) (by simp only at ha; omega)).mono ?_⟩
        rintro _ _ ⟨z, b3, z0, z1, rfl, rfl, hb3⟩
        simp_arith
        exact ⟨r ++ [min (min (q : Int) s) z], b3, by rw [ints_app, ints_one], by rw [List.length_append, List.length_append, g1]; rfl, by rw [List.append_assoc]; exact g2, hb3, rfl⟩
      · rw [if_neg c]
        exact ⟨r ++ [0], b2, by rw [ints_app, ints_one], by rw [List.length_append, List.length_append, g1]; rfl, by rw [List.append_assoc]; exact g2, hb2, rfl⟩
    · obtain ⟨r, b2, rfl, g1, g2, hb2, rfl⟩ := h
      refine ⟨r, b2, rfl, ?_, hb2, rfl⟩
      rw [g1, ← List.append_nil done, g2, e1]
    · rintro r ρ ⟨r', b2, g0, g1, hb2, rfl⟩
      rw [List.nil_append] at g0
      subst g0
      simp_arith [lr]
      exact ⟨r', b2, _, g1, hb2, by rw [List.map_append]; rfl⟩
theorem sizes_loop {b : Bag} {m : Nat} {mi : Int} {rs : List Int} {O : Option Val} {Q : Fl → Rho → Prop} (hmi : mi = (m : Int)) (hb : b.cells.length ≤ 1000) (hm : m ≤ 100) (h0 : rs ≠ []) (hl : rs.length ≤ 100) (hr : ∀ x ∈ rs, 1 ≤ x ∧ x ≤ 100)
    (fin : ∀ (ss : List Int) (b' : Bag) (x4 x5 : Option Val), Sz m ss → LegS 0 rs ss → ss.length ≤ 100 → b'.cells.length ≤ 1000 → Q .nx [some (.ow b'.d), some (.fz (.tuple [.int mi, tupI rs])), O, some (.ow (intsD ss)), x4, x5, none, none, none, none, none, none]) :
    wp (forL (.nm 5) b1__law_tight_known (intsD rs)) [some (.ow b.d), some (.fz (.tuple [.int mi, tupI rs])), O, some (.ow []), some (.fz (.int 0)), none, none, none, none, none, none, none] Q := by
  refine wp_forL (enc := PyData.int) (fun done rest ρ => ∃ (ss : List Int) (s : Int), ∃ b' : Bag, ∃ x5, ss.length = done.length ∧ upF 0 ss ∧ (∀ y ∈ ss, y ≤ s) ∧ (LegS 0 done ss ∧ ss.getLast?.getD 0 = s) ∧ 0 ≤ s ∧ s ≤ mi ∧ done ++ rest = rs ∧ b'.cells.length ≤ 1000 ∧
    ρ = [some (.ow b'.d), some (.fz (.tuple [.int mi, tupI rs])), O, some (.ow (intsD ss)), some (.fz (.int s)), x5, none, none, none, none, none, none]) (fun done a rest ρ h => ?_) (fun done ρ h => ?_) rs [] _ ⟨[], 0, b, none, rfl, trivial, (fun _ h => nomatch h), ⟨trivial, rfl⟩, by omega, by omega, rfl, hb, rfl⟩
  · obtain ⟨ss, s, b', x5, e1, e2, e3, eL, e4, e5, e6, hb', rfl⟩ := h
    have ha := hr a (by rw [← e6]; simp)
    have ld : done.length < rs.length := by rw [← e6]; simp
    have ls : ss.length < 16777216 := by omega
    unfold b1__law_tight_known
    simp_arith
    refine ⟨rfl, (tk hb' (n := a + 1) (by omega) (by omega)).mono ?_⟩
    rintro _ _ ⟨k, b2, k0, k1, rfl, rfl, hb2⟩
    simp_arith
    refine ⟨rfl, (oneI hb2 (lo := 0) (hi := a) (in_cons (by omega) (in_cons (by omega) (in_cons (by omega) in_nil))) (by simp) (by simp)).mono ?_⟩
    rintro _ _ ⟨z, b3, z0, z1, rfl, rfl, hb3⟩
    simp_arith [ls]
    refine ⟨ss ++ [min mi (s + z)], min mi (s + z), b3, _, by rw [List.length_append, List.length_append, e1]; rfl, upF_snoc e2 (by omega) (fun y hy => by have := e3 y hy; omega), fun y hy => ?_, ⟨legS_snoc eL.1 eL.2 (by omega), by simp⟩, by omega, by omega, by rw [List.append_assoc]; exact e6, hb3, by rw [ints_app, ints_one]⟩
    rcases List.mem_append.mp hy with hy | hy
    · have := e3 y hy; omega
    · rw [List.mem_singleton.mp hy]
      exact Int.le_refl _
  · obtain ⟨ss, s, b', x5, e1, e2, e3, eL, e4, e5, e6, hb', rfl⟩ := h
    have el : ss.length = rs.length := by rw [e1, ← e6, List.append_nil]
    refine fin ss b' _ x5 ⟨fun e => ?_, e2, fun y hy => by have := e3 y hy; omega⟩ (by
      have := eL.1
      rw [List.append_nil] at e6
      rwa [e6] at this) (by omega) hb'
    rw [e] at el
    exact h0 (List.eq_nil_of_length_eq_zero el.symm)
/-- the rows of one turn -/
theorem turn_loop {b : Bag} {m : Nat} {mi : Int} {rs ss : List Int} {O S x4 x5 x6 x8 x9 x10 x11 : Option Val} {Q : Fl → Rho → Prop} (hmi : mi = (m : Int)) (hb : b.cells.length ≤ 1000) (hm : m ≤ 100) (hs : Sz m ss) (hl : ss.length ≤ 100) (h9 : isOwn (some x9) = false) (h10 : isOwn (some x10) = false)
    (fin : ∀ (rows : List (List Int)) (b' : Bag) (x4 x8 : Option Val), rows.length = ss.length → Len m rows → b'.cells.length ≤ 1000 → Q .nx [some (.ow b'.d), some (.fz (.tuple [.int mi, tupI rs])), O, S, x4, x5, x6, some (.ow (rows.map tupI)), x8, x9, x10, x11]) :
    wp (forL (.nm 4) b2__law_tight_known (intsD ss)) [some (.ow b.d), some (.fz (.tuple [.int mi, tupI rs])), O, S, x4, x5, x6, some (.ow []), x8, x9, x10, x11] Q := by
  refine wp_forL (enc := PyData.int) (fun done rest ρ => ∃ rows, ∃ b' : Bag, ∃ x4 x8, rows.length = done.length ∧ Len m rows ∧ done ++ rest = ss ∧ b'.cells.length ≤ 1000 ∧
    ρ = [some (.ow b'.d), some (.fz (.tuple [.int mi, tupI rs])), O, S, x4, x5, x6, some (.ow (rows.map tupI)), x8, x9, x10, x11]) (fun done a rest ρ h => ?_) (fun done ρ h => ?_) ss [] _ ⟨[], b, x4, x8, rfl, (fun _ h => nomatch h), rfl, hb, rfl⟩
  · obtain ⟨rows, b', x4, x8, e1, e2, e3, hb', rfl⟩ := h
    have ha : a ∈ ss := by rw [← e3]; simp
    have ld : done.length < ss.length := by rw [← e3]; simp
    simp_arith
    refine (b2_known hmi hb' hm ⟨upF_nn hs.up a ha, hs.le a ha⟩ (by omega) h9 h10).mono ?_
    rintro _ _ ⟨rfl, r, b2, x8, g1, hb2, rfl⟩
    refine ⟨rows ++ [r], b2, _, x8, by rw [List.length_append, List.length_append, e1]; rfl, fun w hw => ?_, by rw [List.append_assoc]; exact e3, hb2, rfl⟩
    rcases List.mem_append.mp hw with hw | hw
    · exact e2 w hw
    · rw [List.mem_singleton.mp hw]; exact g1
  · obtain ⟨rows, b', x4, x8, e1, e2, e3, hb', rfl⟩ := h
    exact fin rows b' x4 x8 (by rw [e1, ← e3, List.append_nil]) e2 hb'
theorem flat_rep {α : Type} (d : α) : ∀ n : Nat, (List.replicate n [d]).flatten = List.replicate n d
  | 0 => rfl
  | n + 1 => by
    rw [List.replicate_succ, List.flatten_cons, flat_rep d n]
    rfl
/-- what a knowledge that was drawn is -/
def TK (m : Nat) (rs : List Int) (v : Val) : Prop := ∃ (ord : List Nat) (ss : List Int) (W : List (List Int)), v = .fz (knD ord W) ∧ Kn m rs ord ss W
theorem b3_known {b : Bag} {m : Nat} {mi : Int} {rs ss : List Int} {ord : List Nat} {S : Val} {x4 x5 x6 x7 x8 x9 x10 x11 : Option Val} (hmi : mi = (m : Int)) (hb : b.cells.length ≤ 1000) (hm : m ≤ 100) (hs : Sz m ss) (hl : ss.length ≤ 100) (ho : ord.Perm (List.range m)) (hleg : LegS 0 rs ss) (h9 : isOwn (some x9) = false) (h10 : isOwn (some x10) = false)
    (hS : S = .ow (intsD ss) ∨ S = .fz (lisI ss)) :
    wp b3__law_tight_known [some (.ow b.d), some (.fz (.tuple [.int mi, tupI rs])), some (.fz (.tuple (natsD ord))), some S, x4, x5, x6, x7, x8, x9, x10, x11] fun f ρ =>
      (f = .nx ∧ ∃ b' : Bag, ∃ x4 x7 x8 x11, b'.cells.length ≤ 1000 ∧ ρ = [some (.ow b'.d), some (.fz (.tuple [.int mi, tupI rs])), some (.fz (.tuple (natsD ord))), some (.fz (lisI ss)), x4, x5, x6, x7, x8, x9, x10, x11]) ∨
      (∃ v, f = .rt v ∧ TK m rs v ∧ ∃ b' : Bag, ∃ ρ', b'.cells.length ≤ 1000 ∧ ρ = some (.ow b'.d) :: ρ') := by
  have main : ∀ (x4 x11 : Option Val), wp (forL (.nm 4) b2__law_tight_known (intsD ss)) [some (.ow b.d), some (.fz (.tuple [.int mi, tupI rs])), some (.fz (.tuple (natsD ord))), some (.fz (lisI ss)), x4, x5, x6, some (.ow []), x8, x9, x10, x11] fun f ρ => f = .nx ∧ ∃ rows, ∃ b' : Bag, ∃ x4 x8, rows.length = ss.length ∧ Len m rows ∧ b'.cells.length ≤ 1000 ∧
      ρ = [some (.ow b'.d), some (.fz (.tuple [.int mi, tupI rs])), some (.fz (.tuple (natsD ord))), some (.fz (lisI ss)), x4, x5, x6, some (.ow (rows.map tupI)), x8, x9, x10, x11] := fun x4 x11 =>
    turn_loop hmi hb hm hs hl h9 h10 fun rows b' x4 x8 e1 e2 hb' => ⟨rfl, rows, b', x4, x8, e1, e2, hb', rfl⟩
  unfold b3__law_tight_known
  rcases hS with rfl | rfl
  all_goals
    simp_arith
    refine (main _ _).mono ?_
    rintro _ _ ⟨rfl, rows, b', x4, x8, e1, e2, hb', rfl⟩
    simp_arith
    have hr0 : rows ≠ [] := fun e => by
      rw [e] at e1
      exact hs.nil (List.eq_nil_of_length_eq_zero e1.symm)
    refine ⟨rfl, (lawT_ok rows ss m hr0 e1 (by omega) (by omega) e2).mono ?_⟩
    intro v o hv
    rw [hv, noneOr_eq]
    cases ht : tightP rows ss with
    | none =>
      simp_arith [dOr]
      exact .inl ⟨b', _, _, _, _, hb', rfl⟩
    | some W =>
      have t := tight_of e1 e2 ht
      simp_arith [dOr]
      exact .inr ⟨_, rfl, ⟨ord, ss, W, rfl, ho, tight_tf.mp t, hleg⟩, b', _, hb', rfl⟩
theorem tight_known_ok {b : Bag} {m : Nat} {mi : Int} {rs : List Int} (hmi : mi = (m : Int)) (hb : b.cells.length ≤ 1000) (hm : m ≤ 100) (h0 : rs ≠ []) (hl : rs.length ≤ 100) (hr : ∀ x ∈ rs, 1 ≤ x ∧ x ≤ 100) :
    wpF (e__law_tight_known.f [.ow b.d, .fz (.tuple [.int mi, tupI rs])]) fun v o => TK m rs v ∧ ∃ b' : Bag, o = some b'.d ∧ b'.cells.length ≤ 1000 := by
  have hrng : rngOf [.int mi] = some ((List.range m).map fun (k : Nat) => PyData.int (k : Int)) := by rw [hmi]; exact rng_one (by omega)
  have three : rngOf [.int 3] = _ := rng_one (n := 3) (by omega)
  show wpF (fnOf 12 m__law_tight_known _) _
  rw [wpF_fnOf]
  unfold m__law_tight_known
  simp_arith [hrng]
  refine ⟨rfl, (mixedP hb (fun (k : Nat) => PyData.int (k : Int)) (l := List.range m) (by rw [List.length_range]; omega) rfl).mono ?_⟩
  rintro _ _ ⟨ord, b1, rfl, ho, rfl, hb1⟩
  simp_arith
  refine sizes_loop hmi hb1 hm h0 hl hr fun ss b2 x4 x5 hs hleg hls hb2 => ?_
  simp_arith [three]
  refine wp_up (fun j ρ => ∃ S, ∃ b' : Bag, ∃ x4 x6 x7 x8 x11, (S = Val.ow (intsD ss) ∨ S = Val.fz (lisI ss)) ∧ b'.cells.length ≤ 1000 ∧
    ρ = [some (.ow b'.d), some (.fz (.tuple [.int mi, tupI rs])), some (.fz (.tuple (natsD ord))), some S, x4, x5, x6, x7, x8, none, none, x11]) (fun j ρ hj h => ?_) (fun ρ h => ?_) ⟨_, b2, _, none, none, none, none, .inl rfl, hb2, rfl⟩
  · obtain ⟨S, b', x4, x6, x7, x8, x11, hS, hb', rfl⟩ := h
    simp_arith
    refine (b3_known hmi hb' hm hs hls ho hleg rfl rfl hS).mono ?_
    rintro f ρ (⟨rfl, b3, x4, x7, x8, x11, hb3, rfl⟩ | ⟨v, rfl, hg, b3, ρ', hb3, rfl⟩)
    · exact ⟨_, b3, _, _, _, _, _, .inr rfl, hb3, rfl⟩
    · exact ⟨hg, b3, rfl, hb3⟩
  · obtain ⟨S, b', x4, x6, x7, x8, x11, hS, hb', rfl⟩ := h
    have hz := zeros_some (m := m) hs.nil hs.up hs.le
    have em : (mi + 1).toNat = m + 1 := by omega
    have c1 : 0 ≤ mi + 1 ∧ mi + 1 ≤ 1000 := by omega
    have lss := List.length_pos_iff.mpr hs.nil
    have c2 : 0 ≤ (ss.length : Int) ∧ (ss.length : Int) ≤ 1000 := by omega
    have ez : PyData.tuple (List.replicate ss.length (PyData.tuple ([PyData.int 0] :: List.replicate m [PyData.int 0]).flatten)) = rowsD (List.replicate ss.length (zerosP m)) := by
      have e1 : ([PyData.int 0] :: List.replicate m [PyData.int 0]).flatten = intsD (zerosP m) := by
        show (List.replicate (m + 1) [PyData.int 0]).flatten = _
        rw [flat_rep, intsD, List.map_replicate]
      rw [e1]
      show PyData.tuple _ = PyData.tuple (List.map tupI _)
      rw [List.map_replicate]
    have fin : wpF (e__law_tightened.f [.fz (rowsD (List.replicate ss.length (zerosP m))), .fz (tupI ss)]) fun v _ => ∃ W, v = .fz (rowsD W) ∧ Tight m W ss := by
      have hL : Len m (List.replicate ss.length (zerosP m)) := fun w hw => by
        rw [List.eq_of_mem_replicate hw, List.length_replicate]
      refine (lawT_ok _ ss m (by intro e; have := congrArg List.length e; rw [List.length_replicate] at this; simp only [List.length_nil] at this; omega) (by rw [List.length_replicate]) (by rw [List.length_replicate]; omega) (by omega) hL).mono ?_
      intro v o hv
      obtain ⟨W, hW⟩ := hz
      exact ⟨W, by rw [hv, hW]; rfl, tight_of (by rw [List.length_replicate]) hL hW⟩
    rcases hS with rfl | rfl
    all_goals
      simp_arith [mul_tup, c1.1, c1.2, c2.1, c2.2, em, flat_rep, Int.toNat_natCast]
      refine ⟨rfl, ?_⟩
      rw [ez]
      refine fin.mono ?_
      rintro v o ⟨W, rfl, t⟩
      simp_arith
      exact ⟨⟨ord, ss, W, rfl, ho, tight_tf.mp t, hleg⟩, b', rfl, hb'⟩
end FW

/-! FwU: houses, knowledges that laws draw. -/
namespace FW
open PySem FK
theorem house_ok {b : Bag} (hb : b.cells.length ≤ 1000) {T F R : Nat} (hT : T ≤ 100) (hF : 1 ≤ F ∧ F ≤ 100) (hR : 1 ≤ R ∧ R ≤ 100) : wpF (e__law_house.f [.ow b.d, .fz (.int (T : Int)), .fz (.int (F : Int)), .fz (.int (R : Int))]) fun v o =>
    ∃ (M : Nat) (rs : List Int), ∃ b' : Bag, v = .fz (.tuple [.int (M : Int), tupI rs]) ∧ M ≤ T ∧ rs ≠ [] ∧ rs.length ≤ F ∧ (∀ x ∈ rs, 1 ≤ x ∧ x ≤ 100) ∧ o = some b'.d ∧ b'.cells.length ≤ 1000 := by
  show wpF (fnOf 8 m__law_house _) _
  rw [wpF_fnOf]
  unfold m__law_house
  simp_arith
  refine ⟨rfl, (tk hb (n := (T : Int) + 1) (by omega) (by omega)).mono ?_⟩
  rintro _ _ ⟨k, b1, k0, k1, rfl, rfl, hb1⟩
  simp_arith
  refine ⟨rfl, (oneI hb1 (lo := 0) (hi := 100) (in_cons (by omega) (in_cons (by omega) (in_cons (by omega) (in_cons (by omega) (in_cons (by omega) (in_cons (by omega) (in_cons (by omega) in_nil))))))) (by simp) (by simp)).mono ?_⟩
  rintro _ _ ⟨mm, b2, m0, m1, rfl, rfl, hb2⟩
  simp_arith
  refine ⟨rfl, (tk hb2 (n := (F : Int)) (by omega) (by omega)).mono ?_⟩
  rintro _ _ ⟨k2, b3, k3, k4, rfl, rfl, hb3⟩
  simp_arith
  refine ⟨rfl, (oneI hb3 (lo := 1) (hi := 200) (in_cons (by omega) (in_cons (by omega) (in_cons (by omega) (in_cons (by omega) (in_cons (by omega) in_nil))))) (by simp) (by simp)).mono ?_⟩
  rintro _ _ ⟨nn, b4, n0, n1, rfl, rfl, hb4⟩
  obtain ⟨n, rfl⟩ := Int.eq_ofNat_of_zero_le (show 0 ≤ nn by omega)
  have hn : n ≤ 1000000 := by omega
  simp_arith [rng_one hn]
  refine wp_up (fun j ρ => ∃ (rs : List Int) (left : Int), ∃ b' : Bag, ∃ x7, (j = 0 ∨ rs ≠ []) ∧ rs.length ≤ j ∧ rs.length ≤ F ∧ (∀ x ∈ rs, 1 ≤ x ∧ x ≤ 100) ∧ (0 ≤ left ∧ left ≤ 100) ∧ (j = 0 → 1 ≤ left) ∧ b'.cells.length ≤ 1000 ∧
    ρ = [some (.ow b'.d), some (.fz (.int (T : Int))), some (.fz (.int (F : Int))), some (.fz (.int (R : Int))), some (.fz (.int mm)), some (.ow (intsD rs)), some (.fz (.int left)), x7]) (fun j ρ hj h => ?_) (fun ρ h => ?_) ⟨[], R, b4, none, .inl rfl, by simp, by simp, (fun _ h => nomatch h), by omega, by omega, hb4, rfl⟩
  · obtain ⟨rs, left, b', x7, g0, g1, g2, g3, g4, g5, hb', rfl⟩ := h
    have lr : rs.length < 16777216 := by omega
    simp_arith
    unfold b1__law_house
    simp_arith
    have no : ¬(0 < left ∧ (j : Int) < (F : Int)) → rs ≠ [] := fun hc => by
      rcases g0 with g0 | g0
      · exact absurd ⟨by have := g5 g0; omega, by omega⟩ hc
      · exact g0
    by_cases c1 : 0 < left
    · rw [if_pos c1]
      by_cases c2 : (j : Int) < (F : Int)
      · rw [if_pos c2]
        refine ⟨rfl, (tk hb' (n := (R : Int)) (by omega) (by omega)).mono ?_⟩
        rintro _ _ ⟨q, b2, q0, q1, rfl, rfl, hb2⟩
        simp_arith
        refine ⟨rfl, (oneI hb2 (lo := 1) (hi := 100) (in_cons (by omega) (in_cons (by omega) (in_cons (by omega) (in_cons (by omega) (in_cons (by omega) (in_cons (by omega) (in_cons (by omega) in_nil))))))) (by simp) (by simp)).mono ?_⟩
        rintro _ _ ⟨z, b3, z0, z1, rfl, rfl, hb3⟩
        simp_arith [lr, getAt_last]
        refine ⟨rs ++ [min left z], left - min left z, b3, _, .inr (by simp), by rw [List.length_append]; simp only [List.length_cons, List.length_nil]; omega, by rw [List.length_append]; simp only [List.length_cons, List.length_nil]; omega, fun x hx => ?_, by omega, (fun h => nomatch h), hb3, by rw [ints_app, ints_one]⟩
        rcases List.mem_append.mp hx with hx | hx
        · exact g3 x hx
        · rw [List.mem_singleton.mp hx]; omega
      · rw [if_neg c2]
        exact ⟨rs, left, b', _, .inr (no fun h => c2 h.2), by omega, g2, g3, g4, (fun h => nomatch h), hb', rfl⟩
    · rw [if_neg c1]
      exact ⟨rs, left, b', _, .inr (no fun h => c1 h.1), by omega, g2, g3, g4, (fun h => nomatch h), hb', rfl⟩
  · obtain ⟨rs, left, b', x7, g0, g1, g2, g3, g4, g5, hb', rfl⟩ := h
    obtain ⟨M, rfl⟩ := Int.eq_ofNat_of_zero_le m0
    simp_arith
    exact ⟨min M T, rs, b', by rw [show ((min M T : Nat) : Int) = min (M : Int) (T : Int) by omega], by omega, g0.resolve_left (by omega), g2, g3, rfl, hb'⟩

/-- a house that a law may draw -/
structure Hou (M : Nat) (rs : List Int) : Prop where
  m : M ≤ 100
  nil : rs ≠ []
  len : rs.length ≤ 100
  rng : ∀ x ∈ rs, 1 ≤ x ∧ x ≤ 100
def houTail : MS := (sRet (mIf (asT (mBin oGt (.ex (mCallR e__law_take 0 [(false, (mC (.int 6)))])) (.ex (mC (.int 0))))) (mTup [(false, (mBin oSub (.nm 2) (.ex (mCallR e__law_take 0 [(false, (mC (.int 2)))])))), (false, (mBin oIx (.nm 3) (.ex (mC (.int 1)))))]) (mV 3)))
theorem some_house_ok {b : Bag} (hb : b.cells.length ≤ 1000) {menu : List Int} {B : Nat} (hB : B ≤ 100) (h0 : menu ≠ []) (hl : menu.length ≤ 1000) (hm : ∀ x ∈ menu, 1 ≤ x ∧ x ≤ (B : Int)) : wpF (e__law_some_house.f [.ow b.d, .fz (lisI menu)]) fun v o => ∃ M rs, ∃ b' : Bag, v = .fz (hou M rs) ∧ Hou M rs ∧ M ≤ B ∧ rs.length ≤ 4 ∧ o = some b'.d ∧ b'.cells.length ≤ 1000 := by
  show wpF (fnOf 4 m__law_some_house _) _
  rw [wpF_fnOf]
  unfold m__law_some_house
  simp_arith
  refine ⟨rfl, (oneI hb (xs := intsD menu) (lo := 1) (hi := (B : Int)) (fun d hd => by
    obtain ⟨i, hi, rfl⟩ := List.mem_map.mp hd
    exact ⟨i, rfl, hm i hi⟩) (by simp [h0]) (by simp; omega)).mono ?_⟩
  rintro _ _ ⟨T, b1, t0, t1, rfl, rfl, hb1⟩
  obtain ⟨T, rfl⟩ := Int.eq_ofNat_of_zero_le (show 0 ≤ T by omega)
  have fin : ∀ (M : Nat) (rs : List Int) (b2 : Bag), M ≤ T → rs ≠ [] → rs.length ≤ 4 → (∀ x ∈ rs, 1 ≤ x ∧ x ≤ 100) → b2.cells.length ≤ 1000 → wp (sRet (mIf (asT (mBin oGt (.ex (mCallR e__law_take 0 [(false, (mC (.int 6)))])) (.ex (mC (.int 0))))) (mTup [(false, (mBin oSub (.nm 2) (.ex (mCallR e__law_take 0 [(false, (mC (.int 2)))])))), (false, (mBin oIx (.nm 3) (.ex (mC (.int 1)))))]) (mV 3)))
      [some (.ow b2.d), some (.fz (lisI menu)), some (.fz (.int (T : Int))), some (.fz (hou M rs))] fun f ρ => ∃ v, f = .rt v ∧ ∃ M rs, ∃ b' : Bag, ∃ ρ', ρ = some (.ow b'.d) :: ρ' ∧ v = .fz (hou M rs) ∧ Hou M rs ∧ M ≤ B ∧ rs.length ≤ 4 ∧ b'.cells.length ≤ 1000 := fun M rs b2 h1 h2 h3 h4 hb2 => by
    simp_arith
    refine ⟨rfl, (tk hb2 (n := 6) (by omega) (by omega)).mono ?_⟩
    rintro _ _ ⟨q, b3, q0, q1, rfl, rfl, hb3⟩
    simp_arith
    by_cases c : 0 < q
    · rw [if_pos c]
      refine ⟨rfl, (tk hb3 (n := 2) (by omega) (by omega)).mono ?_⟩
      rintro _ _ ⟨k, b4, k0, k1, rfl, rfl, hb4⟩
      simp_arith
      refine ⟨_, rfl, ((T : Int) - k).toNat, rs, b4, _, rfl, ?_, ⟨by omega, h2, by omega, h4⟩, by omega, h3, hb4⟩
      show _ = Val.fz (PyData.tuple [PyData.int ((((T : Int) - k).toNat : Nat) : Int), tupI rs])
      rw [show ((((T : Int) - k).toNat : Nat) : Int) = (T : Int) - k by omega]
    · rw [if_neg c]
      exact ⟨_, rfl, M, rs, b3, _, rfl, rfl, ⟨by omega, h2, by omega, h4⟩, by omega, h3, hb3⟩
  have tail : (sRet (mIf (asT (mBin oGt (.ex (mCallR e__law_take 0 [(false, (mC (.int 6)))])) (.ex (mC (.int 0))))) (mTup [(false, (mBin oSub (.nm 2) (.ex (mCallR e__law_take 0 [(false, (mC (.int 2)))])))), (false, (mBin oIx (.nm 3) (.ex (mC (.int 1)))))]) (mV 3))) = houTail := rfl
  rw [tail] at fin ⊢
  simp_arith
  by_cases c : (T : Int) < 7
  · rw [if_pos c]
    refine ⟨rfl, (house_ok hb1 (T := T) (F := 3) (R := 5) (by omega) (by omega) (by omega)).mono ?_⟩
    rintro _ _ ⟨M, rs, b2, rfl, g1, g2, g3, g4, rfl, hb2⟩
    simp_arith
    refine (fin M rs b2 g1 g2 (by omega) g4 hb2).mono ?_
    rintro _ _ ⟨v, rfl, M, rs, b', ρ', rfl, rfl, hH, h6, h5, hb'⟩
    exact ⟨M, rs, b', rfl, hH, h6, h5, rfl, hb'⟩
  · rw [if_neg c]
    refine ⟨rfl, (house_ok hb1 (T := T) (F := 4) (R := 12) (by omega) (by omega) (by omega)).mono ?_⟩
    rintro _ _ ⟨M, rs, b2, rfl, g1, g2, g3, g4, rfl, hb2⟩
    simp_arith
    refine (fin M rs b2 g1 g2 (by omega) g4 hb2).mono ?_
    rintro _ _ ⟨v, rfl, M, rs, b', ρ', rfl, rfl, hH, h6, h5, hb'⟩
    exact ⟨M, rs, b', rfl, hH, h6, h5, rfl, hb'⟩
theorem led_by0 {rs : List Int} {ord : List Nat} {W : List (List Int)} : wpF (e__law_led_by.f [.fz (hou 0 rs), .fz (knD ord W), .fz (.tuple [])]) fun v _ => v = .fz (.tuple [knD ord W, .none]) := by
  rw [show e__law_led_by.f = fnOf 6 m__law_led_by from rfl, wpF_fnOf]
  unfold m__law_led_by
  simp_arith
  refine wp_enum (enc := Ent.d) (fun k rest ρ => rest = [] ∧ ρ = [some (.fz (hou 0 rs)), some (.fz (knD ord W)), some (.fz (.tuple [])), none, none, none]) (fun k e rest ρ hI => ?_) (fun k ρ hI => ?_) (xs := []) ⟨rfl, rfl⟩
  · cases hI.1
  · obtain ⟨_, rfl⟩ := hI
    simp_arith
theorem led_by_any {M : Nat} {rs : List Int} (hM : M ≤ 1000) (h1 : rs.length ≤ 999) (hr : ∀ x ∈ rs, 1 ≤ x) {ord : List Nat} {ss : List Int} {W : List (List Int)} {log : List Ent} (h : Kn M rs ord ss W) (hlog : ∀ e ∈ log, e.t < M) :
    wpF (e__law_led_by.f [.fz (hou M rs), .fz (knD ord W), .fz (.tuple (log.map Ent.d))]) fun v _ => ∃ ord' ss' W' d, v = .fz (.tuple [knD ord' W', d]) ∧ Kn M rs ord' ss' W' := by
  cases M with
  | succ m => exact led_by_ok hM h1 hr h hlog
  | zero =>
    have : log = [] := by
      cases log with
      | nil => rfl
      | cons e log => exact absurd (hlog e List.mem_cons_self) (Nat.not_lt_zero _)
    subst this
    refine led_by0.mono ?_
    rintro _ _ rfl
    exact ⟨ord, ss, W, _, rfl, h⟩
theorem known_ok {b : Bag} (hb : b.cells.length ≤ 1000) {M n : Nat} {rs : List Int} {strikes : Int} (hH : Hou M rs) (hn : n ≤ 1000) (hst : 0 ≤ strikes ∧ strikes ≤ 1000) : wpF (e__law_known.f [.ow b.d, .fz (hou M rs), .fz (.int (n : Int)), .fz (.int strikes)]) fun v o => ∃ s log ord ss W, ∃ b' : Bag, v = .fz (.tuple [stD s, .tuple log, knD ord W]) ∧ Kn M rs ord ss W ∧ o = some b'.d ∧ b'.cells.length ≤ 1000 := by
  have hM := hH.m
  have hl := hH.len
  show wpF (fnOf 8 m__law_known _) _
  rw [wpF_fnOf]
  unfold m__law_known
  simp_arith
  refine ⟨rfl, (start_ok hb (M := M) (rs := rs) (by omega) (by omega) (fun x hx => by have := hH.rng x hx; omega)).mono ?_⟩
  rintro _ _ ⟨s, b1, rfl, hs, rfl, hb1⟩
  simp_arith
  refine ⟨rfl, (tk hb1 (n := (n : Int) + 1) (by omega) (by omega)).mono ?_⟩
  rintro _ _ ⟨k, b2, k0, k1, rfl, rfl, hb2⟩
  simp_arith
  refine ⟨rfl, (oneI hb2 (lo := 0) (hi := (n : Int)) (in_cons (by omega) (in_cons (by omega) (in_cons (by omega) (in_cons (by omega) in_nil)))) (by simp) (by simp)).mono ?_⟩
  rintro _ _ ⟨many, b3, m0, m1, rfl, rfl, hb3⟩
  obtain ⟨many, rfl⟩ := Int.eq_ofNat_of_zero_le m0
  simp_arith
  refine ⟨rfl, (story_ok hb3 (n := many) (s := s) (by omega) (by omega) (by omega) (fun x hx => by have := hH.rng x hx; omega) hs hst).mono ?_⟩
  rintro _ _ ⟨mvs, log, states, st, st', b4, rfl, h1, h2, h3, h4, h5, rfl, hb4⟩
  simp_arith
  refine ⟨rfl, (first_ok (M := M) (rs := rs) (s := s) (by omega) (by omega) hH.nil (fun x hx => by have := hH.rng x hx; omega) hs).mono ?_⟩
  rintro _ _ ⟨ord, ss, W, rfl, hK⟩
  simp_arith
  refine ⟨rfl, (led_by_any (by omega) (by omega) (fun x hx => (hH.rng x hx).1) hK h4).mono ?_⟩
  rintro _ _ ⟨ord', ss', W', d, rfl, hK'⟩
  simp_arith
  exact ⟨s, log.map Ent.d, ord', ss', W', b4, rfl, hK', rfl, hb4⟩
theorem some_known_ok {b : Bag} (hb : b.cells.length ≤ 1000) {M : Nat} {rs : List Int} (hH : Hou M rs) : wpF (e__law_some_known.f [.ow b.d, .fz (hou M rs)]) fun v o => ∃ ord ss W, ∃ b' : Bag, v = .fz (knD ord W) ∧ Kn M rs ord ss W ∧ o = some b'.d ∧ b'.cells.length ≤ 1000 := by
  show wpF (fnOf 2 m__law_some_known _) _
  rw [wpF_fnOf]
  unfold m__law_some_known
  simp_arith
  refine ⟨rfl, (tk hb (n := 3) (by omega) (by omega)).mono ?_⟩
  rintro _ _ ⟨q, b1, q0, q1, rfl, rfl, hb1⟩
  simp_arith
  by_cases c : q = 0
  · rw [if_pos c]
    refine ⟨rfl, (tight_known_ok (m := M) rfl hb1 hH.m hH.nil hH.len hH.rng).mono ?_⟩
    rintro _ _ ⟨⟨ord, ss, W, rfl, hK⟩, b2, rfl, hb2⟩
    simp_arith
    exact ⟨ord, ss, W, b2, rfl, hK, rfl, hb2⟩
  · rw [if_neg c]
    refine ⟨rfl, (known_ok hb1 hH (n := 12) (strikes := 6) (by omega) (by omega)).mono ?_⟩
    rintro _ _ ⟨s, log, ord, ss, W, b2, rfl, hK, rfl, hb2⟩
    simp_arith
    exact ⟨ord, ss, W, b2, rfl, hK, rfl, hb2⟩
end FW

/-! FwV: all states of a small house. -/
namespace FW
open PySem FK
def nextS (rs st : List Int) : List (List Int) := (rs.zipIdx.flatMap fun q => if ((st.count (q.2 : Int) : Nat) : Int) < q.1 then [st ++ [(q.2 : Int)]] else []) ++ [st ++ [(rs.length : Int)]]
def allS (rs : List Int) : Nat → List (List Int)
  | 0 => [[]]
  | k + 1 => (allS rs k).flatMap (nextS rs)
theorem nextS_mem {rs st x : List Int} (h : x ∈ nextS rs st) : x.length = st.length + 1 := by
  unfold nextS at h
  rcases List.mem_append.mp h with h | h
  · obtain ⟨q, _, h⟩ := List.mem_flatMap.mp h
    split at h
    · rw [List.mem_singleton.mp h, List.length_append]; rfl
    · nomatch h
  · rw [List.mem_singleton.mp h, List.length_append]; rfl
theorem allS_len {rs : List Int} : ∀ {k : Nat} {x : List Int}, x ∈ allS rs k → x.length = k
  | 0, x, h => by rw [List.mem_singleton.mp h]; rfl
  | k + 1, x, h => by
    obtain ⟨y, hy, h⟩ := List.mem_flatMap.mp h
    rw [nextS_mem h, allS_len hy]
theorem sel_len {α β : Type} {p : α → Prop} [DecidablePred p] {g : α → β} : ∀ L : List α, (L.flatMap fun a => if p a then [g a] else []).length ≤ L.length
  | [] => Nat.le_refl _
  | a :: L => by
    rw [List.flatMap_cons, List.length_append, List.length_cons]
    have := sel_len (p := p) (g := g) L
    by_cases h : p a
    · rw [if_pos h]; simp only [List.length_cons, List.length_nil]; omega
    · rw [if_neg h]; simp only [List.length_nil]; omega
theorem nextS_count {rs st : List Int} : (nextS rs st).length ≤ rs.length + 1 := by
  unfold nextS
  rw [List.length_append]
  have := sel_len (p := fun q : Int × Nat => ((st.count (q.2 : Int) : Nat) : Int) < q.1) (g := fun q => st ++ [(q.2 : Int)]) rs.zipIdx
  rw [List.length_zipIdx] at this
  simp only [List.length_cons, List.length_nil]
  omega
theorem flatMap_le {α β : Type} {g : α → List β} {n : Nat} (h : ∀ a, (g a).length ≤ n) : ∀ L : List α, (L.flatMap g).length ≤ L.length * n
  | [] => by simp
  | a :: L => by
    rw [List.flatMap_cons, List.length_append, List.length_cons, Nat.succ_mul]
    have := h a
    have := flatMap_le h L
    omega
theorem allS_count {rs : List Int} : ∀ k : Nat, (allS rs k).length ≤ (rs.length + 1) ^ k
  | 0 => Nat.le_refl _
  | k + 1 => by
    rw [Nat.pow_succ]
    exact Nat.le_trans (flatMap_le (fun _ => nextS_count) _) (Nat.mul_le_mul_right _ (allS_count k))
def selS (rs st : List Int) : List (List Int) := rs.zipIdx.flatMap fun q => if ((st.count (q.2 : Int) : Nat) : Int) < q.1 then [st ++ [(q.2 : Int)]] else []
theorem selS_map (rs st : List Int) : (rs.zipIdx.flatMap fun q => if ((st.count (q.2 : Int) : Nat) : Int) < q.1 then [tupI (st ++ [(q.2 : Int)])] else []) = (selS rs st).map tupI := by
  unfold selS
  rw [List.map_flatMap]
  congr 1
  funext q
  split <;> rfl
theorem selS_len {rs st : List Int} : (selS rs st).length ≤ rs.length := by
  have := sel_len (p := fun q : Int × Nat => ((st.count (q.2 : Int) : Nat) : Int) < q.1) (g := fun q => st ++ [(q.2 : Int)]) rs.zipIdx
  rw [List.length_zipIdx] at this
  exact this
theorem all_states_ok {M : Nat} {rs : List Int} (hM : M ≤ 5) (hr : rs.length ≤ 3) : wpF (e__law_all_states.f [.fz (hou M rs)]) fun v _ => v = .ow ((allS rs M).map tupI) ∨ v = .fz (.list ((allS rs M).map tupI)) := by
  show wpF (fnOf 8 m__law_all_states _) _
  rw [wpF_fnOf]
  unfold m__law_all_states
  simp_arith [rng_one (show M ≤ 1000000 by omega)]
  refine wp_up (fun k ρ => ∃ v x3 x4 x5, (v = .ow ((allS rs k).map tupI) ∨ v = .fz (.list ((allS rs k).map tupI))) ∧ ρ = [some (.fz (hou M rs)), some v, some (.fz (.int (rs.length : Int))), x3, x4, x5, none, none]) (fun k ρ hk h => ?_) (fun ρ h => ?_) ⟨_, none, none, none, .inl rfl, rfl⟩
  · obtain ⟨v, x3, x4, x5, hv, rfl⟩ := h
    have hc : (allS rs k).length ≤ 1024 := Nat.le_trans (allS_count k) (Nat.le_trans (Nat.pow_le_pow_left (show rs.length + 1 ≤ 4 by omega) k) (Nat.le_trans (Nat.pow_le_pow_right (by decide) (show k ≤ 5 by omega)) (by decide)))
    unfold b2__law_all_states
    rcases hv with rfl | rfl
    all_goals
      simp_arith
      refine wp_forL (enc := tupI) (fun dn rest ρ => dn ++ rest = allS rs k ∧ ∃ x5, ρ = [some (.fz (hou M rs)), some (.fz (.list ((allS rs k).map tupI))), some (.fz (.int (rs.length : Int))), some (.fz (.int (k : Int))), some (.ow ((dn.flatMap (nextS rs)).map tupI)), x5, none, none]) (fun dn st rest ρ h => ?_) (fun dn ρ h => ?_) _ [] _ ⟨rfl, _, rfl⟩
      · obtain ⟨h1, x5, rfl⟩ := h
        have hd : (dn.flatMap (nextS rs)).length ≤ 1024 * 4 := by
          refine Nat.le_trans (flatMap_le (fun _ => nextS_count) dn) (Nat.mul_le_mul ?_ (by omega))
          have := congrArg List.length h1
          rw [List.length_append] at this
          omega
        have hs : st.length = k := allS_len (rs := rs) (by rw [← h1]; simp)
        unfold b1__law_all_states
        simp_arith
        refine wp_compE (ea := PyData.int) (fun x j => if ((st.count (j : Int) : Nat) : Int) < x then [tupI (st ++ [(j : Int)])] else []) (fun x j hxj => ?_) ?_
        · simp_arith [goodI.cntT (by decide) st (j : Int), hs]
          have e1 : intsD st ++ [PyData.int (j : Int)] = intsD (st ++ [(j : Int)]) := (List.map_append (f := PyData.int) (l₁ := st) (l₂ := [(j : Int)])).symm
          split
          · exact ⟨by omega, by rw [e1]⟩
          · rfl
        · rw [selS_map]
          have hx : extD (.list ((selS rs st).map tupI)) ((dn.flatMap (nextS rs)).map tupI) = some ((), (dn.flatMap (nextS rs) ++ selS rs st).map tupI) := by
            rw [ext_list, List.length_map, List.length_map, if_pos (by have := selS_len (rs := rs) (st := st); omega), List.map_append]
          have hz : (dn.flatMap (nextS rs) ++ selS rs st).length < 16777216 := by
            rw [List.length_append]
            have := selS_len (rs := rs) (st := st)
            omega
          simp_arith [hx, hs, hz]
          have e1 : (dn.flatMap (nextS rs) ++ selS rs st).map tupI ++ [PyData.tuple (intsD st ++ [PyData.int (rs.length : Int)])] = ((dn ++ [st]).flatMap (nextS rs)).map tupI := by
            rw [List.flatMap_append, show List.flatMap (nextS rs) [st] = selS rs st ++ [st ++ [(rs.length : Int)]] from List.append_nil _, ← List.append_assoc, List.map_append (l₂ := [st ++ [(rs.length : Int)]])]
            congr 1
            show _ = [PyData.tuple ((st ++ [(rs.length : Int)]).map PyData.int)]
            rw [List.map_append]
            rfl
          exact ⟨by omega, by rw [List.append_assoc]; exact h1, some (.fz (tupI st)), by rw [e1]⟩
      · obtain ⟨h1, x5, rfl⟩ := h
        rw [List.append_nil] at h1
        subst h1
        simp_arith
        exact ⟨_, _, _, _, .inr rfl, rfl⟩
  · obtain ⟨v, x3, x4, x5, hv, rfl⟩ := h
    rcases hv with rfl | rfl
    · simp_arith
      exact .inl trivial
    · simp_arith
      exact .inr trivial
end FW

/-! FwW: states that fit. -/
namespace FW
open PySem FK
def pcnt (st : List Int) (f : Nat) (l : List Nat) : Nat := l.countP fun t => decide (st.getD t 0 ≤ (f : Int))
def okF (st : List Int) (ord : List Nat) (f : Nat) (w : List Int) : Bool := (List.range ord.length).all fun c => decide (w.getD (c + 1) 0 ≤ (pcnt st f (ord.take (c + 1)) : Int))
def fitsB (rs : List Int) (ord : List Nat) (W : List (List Int)) (st : List Int) : Bool := decide (sizesL rs st = lastsP W) && W.zipIdx.all fun q => okF st ord q.2 q.1
theorem fits_ok {m : Nat} {rs st : List Int} {ord : List Nat} {W : List (List Int)} (hm : m ≤ 100) (hr : rs.length ≤ 999) (hs : st.length = m) (ho : ord.length = m) (hlt : ∀ t ∈ ord, t < m) (hL : Len m W) :
    wpF (e__law_fits.f [.fz (hou m rs), .fz (knD ord W), .fz (tupI st)]) fun v _ => v = .fz (.bool (fitsB rs ord W st)) := by
  rw [show e__law_fits.f = fnOf 8 m__law_fits from rfl, wpF_fnOf]
  unfold m__law_fits
  simp_arith
  refine ⟨rfl, (sizes_ok (by omega) (by omega) (by omega)).mono ?_⟩
  rintro _ _ rfl
  simp_arith
  refine ⟨rfl, (law_known_sizes_ok (fun w hw => by intro e; have := hL w hw; rw [e] at this; exact absurd this (by simp))).mono ?_⟩
  rintro _ _ rfl
  simp_arith [goodI.tup.oNe (by decide) (sizesL rs st) (lastsP W)]
  by_cases c0 : sizesL rs st = lastsP W
  · rw [decide_eq_true c0]
    have hf : fitsB rs ord W st = W.zipIdx.all fun q => okF st ord q.2 q.1 := by
      unfold fitsB
      rw [decide_eq_true c0, Bool.true_and]
    simp_arith
    refine wp_enum (enc := tupI) (fun k rest ρ => fitsB rs ord W st = ((rest.zipIdx k).all fun q => okF st ord q.2 q.1) ∧ (∀ w ∈ rest, w ∈ W) ∧ ∃ x3 x4 x5 x6 x7, ρ = [some (.fz (hou m rs)), some (.fz (knD ord W)), some (.fz (tupI st)), x3, x4, x5, x6, x7]) (fun k w rest ρ h => ?_) (fun k ρ h => ?_) ⟨hf, fun _ h => h, _, _, _, _, _, rfl⟩
    · obtain ⟨h1, h2, x3, x4, x5, x6, x7, rfl⟩ := h
      rw [List.zipIdx_cons, List.all_cons] at h1
      have lw := hL w (h2 w (List.mem_cons_self ..))
      unfold b2__law_fits
      simp_arith
      refine wp_enum (enc := fun (t : Nat) => PyData.int (t : Int)) (fun j r2 ρ => ∃ done, ord = done ++ r2 ∧ done.length = j ∧ (∀ c, c < j → w.getD (c + 1) 0 ≤ (pcnt st k (ord.take (c + 1)) : Int)) ∧ ∃ x6 x7, ρ = [some (.fz (hou m rs)), some (.fz (knD ord W)), some (.fz (tupI st)), some (.fz (.int (k : Int))), some (.fz (tupI w)), some (.fz (.int (pcnt st k done : Int))), x6, x7]) (fun j t r2 ρ h => ?_) (fun j ρ h => ?_) ⟨[], rfl, rfl, (fun c h => nomatch h), _, _, rfl⟩
      · obtain ⟨done, g1, g2, g3, y6, y7, rfl⟩ := h
        have hj : j < m := by
          have := congrArg List.length g1
          rw [List.length_append, List.length_cons] at this
          omega
        have ht : t < m := hlt t (by rw [g1]; simp)
        have e1 := getAt_ints (w := st) (i := (t : Int)) (k := t) rfl (by omega)
        have e2 := getAt_ints (w := w) (i := (j : Int) + 1) (k := j + 1) (by omega) (by omega)
        have e3 : ord.take (j + 1) = done ++ [t] := by
          rw [g1, ← g2, List.take_length_add_append]
          rfl
        have e4 : (pcnt st k done : Int) + (if st.getD t 0 ≤ (k : Int) then 1 else 0) = (pcnt st k (ord.take (j + 1)) : Int) := by
          rw [e3]
          unfold pcnt
          rw [List.countP_append, List.countP_singleton]
          by_cases c : st.getD t 0 ≤ (k : Int)
          · rw [if_pos c, decide_eq_true c]; rfl
          · rw [if_neg c, decide_eq_false c]; rfl
        unfold b1__law_fits
        simp_arith [e1, e2, int_bool]
        rw [e4]
        by_cases c1 : (pcnt st k (ord.take (j + 1)) : Int) < w.getD (j + 1) 0
        · rw [if_pos c1, h1]
          have hk : okF st ord k w = false := by
            refine List.all_eq_false.mpr ⟨j, List.mem_range.mpr (by omega), ?_⟩
            rw [decide_eq_false (by omega)]
            decide
          rw [hk, Bool.false_and]
        · rw [if_neg c1]
          refine ⟨done ++ [t], by rw [List.append_assoc]; exact g1, by rw [List.length_append, g2]; rfl, fun c hc => ?_, _, _, by rw [e3]⟩
          rcases Nat.lt_or_ge c j with h | h
          · exact g3 c h
          · have : c = j := by omega
            subst this
            omega
      · obtain ⟨done, g1, g2, g3, y6, y7, rfl⟩ := h
        have hk : okF st ord k w = true := by
          refine List.all_eq_true.mpr fun c hc => decide_eq_true (g3 c ?_)
          have := List.mem_range.mp hc
          rw [g1, List.append_nil] at this
          omega
        simp_arith
        refine ⟨?_, fun v hv => h2 v (List.mem_cons_of_mem _ hv), _, _, _, _, _, rfl⟩
        rw [h1, hk, Bool.true_and]
    · obtain ⟨h1, h2, x3, x4, x5, x6, x7, rfl⟩ := h
      simp_arith
      rw [h1]
      rfl
  · rw [decide_eq_false c0]
    simp_arith
    unfold fitsB
    rw [decide_eq_false c0, Bool.false_and]
def fitL (m : Nat) (rs : List Int) (ord : List Nat) (W : List (List Int)) : List (List Int) := (allS rs m).filter fun st => decide (fitsB rs ord W st = true)
theorem states_that_fit_ok {m : Nat} {rs : List Int} {ord : List Nat} {W : List (List Int)} (hm : m ≤ 5) (hr : rs.length ≤ 3) (ho : ord.length = m) (hlt : ∀ t ∈ ord, t < m) (hL : Len m W) :
    wpF (e__law_states_that_fit.f [.fz (hou m rs), .fz (knD ord W)]) fun v _ => v = .ow ((fitL m rs ord W).map tupI) := by
  rw [show e__law_states_that_fit.f = fnOf 3 m__law_states_that_fit from rfl, wpF_fnOf]
  unfold m__law_states_that_fit
  simp_arith
  refine ⟨rfl, (all_states_ok hm hr).mono ?_⟩
  rintro v _ hv
  rcases hv with rfl | rfl
  all_goals
    simp_arith
    refine wp_compP (enc := tupI) (g := fun st => if fitsB rs ord W st = true then [tupI st] else []) (fun st hst => ?_) ?_
    · simp_arith
      refine ⟨rfl, (fits_ok (by omega) (by omega) (allS_len hst) ho hlt hL).mono ?_⟩
      rintro _ _ rfl
      simp_arith
      by_cases c : fitsB rs ord W st = true
      · rw [if_pos c, if_pos c]
      · rw [if_neg c, if_neg c]
    · rw [flat_sel]
      rfl
end FW

namespace K35
open PySem FK L2 FW
def top (i : Nat) : Stmt := PySem.Challenge.pw_floorkeepers_k35_blocks_and_normal_order.main.body.getD i (.Pass ⟨0, 0, 0, 0⟩)
/-! cuts_of : 0 word, 1 place -/
def m_cuts_of : MS := (sRet (mComp [1] (itRng [(.ex (mC (.int 1))), (.ex (mBin oSub (.ex (mFn oLen [(.nm 0)])) (.ex (mC (.int 1)))))]) (.nm 1) (asT (mChain oLt oEq (mBin oIx (.nm 0) (.ex (mBin oSub (.nm 1) (.ex (mC (.int 1)))))) (mBin oIx (.nm 0) (.nm 1)) (mBin oIx (.nm 0) (.ex (mBin oAdd (.nm 1) (.ex (mC (.int 1)))))))) (mV 1)))
def e_cuts_of : FnE := ⟨fnOf 2 m_cuts_of, 1, false⟩
def d_cuts_of : DefT := ⟨top 1, "cuts_of", ["word", "place"], ["word"], false, false, []⟩
theorem ok_cuts_of : d_cuts_of.Ok := ⟨⟨rfl, rfl, rfl, by decide +kernel, rfl, by decide +kernel, by decide +kernel⟩, fun _ _ _ _ _ _ us hl => match us, hl with | [_], _ => rfl⟩
/-! blocks_of : 0 knowledge, 1 order, 2 found, 3 word, 4 blocks, 5 begin, 6 cut -/
def b1_blocks_of : MS := (sSeq (sApp 4 (mTup [(false, (mFn oTuple [(.ex (mFn oSorted [(.ex (mSl (.nm 1) (some (mV 5)) (some (mV 6))))]))])), (false, (mBin oIx (.nm 3) (.nm 6)))]))
  (sSet 5 (mV 6)))
def b2_blocks_of : MS := (sSeq (sPar [4, 5] [(mLst []), (mC (.int 0))])
  (sSeq (sFor (itSeq (mCall e_cuts_of [(false, (mV 3))])) (.nm 6) b1_blocks_of)
  (sApp 2 (mFn oTuple [(.nm 4)]))))
def m_blocks_of : MS := (sSeq (sPar [1, 2] [(mBin oIx (.nm 0) (.ex (mC (.int 0)))), (mLst [])])
  (sSeq (sFor (itSeq (mBin oIx (.nm 0) (.ex (mC (.int 1))))) (.nm 3) b2_blocks_of)
  (sRet (mFn oTuple [(.nm 2)]))))
def e_blocks_of : FnE := ⟨fnOf 7 m_blocks_of, 1, false⟩
def d_blocks_of : DefT := ⟨top 2, "blocks_of", ["knowledge", "order", "found", "word", "blocks", "begin", "cut"], ["knowledge"], false, false, []⟩
theorem ok_blocks_of : d_blocks_of.Ok := ⟨⟨rfl, rfl, rfl, by decide +kernel, rfl, by decide +kernel, by decide +kernel⟩, fun _ _ _ _ _ _ us hl => match us, hl with | [_], _ => rfl⟩
/-! normal_of : 0 knowledge, 1 order, 2 words, 3 found, 4 begin, 5 place, 6 word -/
def b1_normal_of : MS := (sIf (mOr (asT (mBin oEq (.nm 5) (.ex (mFn oLen [(.nm 1)])))) (asT (mBin oNe (.ex (mComp [6] (itSeq (mV 2)) (.nm 6) (asT (mBin oIn (.nm 5) (.ex (mCall e_cuts_of [(false, (mV 6))])))) (mV 6))) (.ex (mLst [])))))
  (sSeq (sExt 3 (mFn oSorted [(.ex (mSl (.nm 1) (some (mV 4)) (some (mV 5))))]))
  (sSet 4 (mV 5)))
  sNx)
def m_normal_of : MS := (sSeq (sPut (.tup [(.nm 1), (.nm 2)]) (mV 0))
  (sSeq (sPar [3, 4] [(mLst []), (mC (.int 0))])
  (sSeq (sFor (itRng [(.ex (mC (.int 1))), (.ex (mBin oAdd (.ex (mFn oLen [(.nm 1)])) (.ex (mC (.int 1)))))]) (.nm 5) b1_normal_of)
  (sRet (mTup [(false, (mFn oTuple [(.nm 3)])), (false, (mV 2))])))))
def e_normal_of : FnE := ⟨fnOf 7 m_normal_of, 1, false⟩
def d_normal_of : DefT := ⟨top 3, "normal_of", ["knowledge", "order", "words", "found", "begin", "place", "word"], ["knowledge"], false, false, []⟩
theorem ok_normal_of : d_normal_of.Ok := ⟨⟨rfl, rfl, rfl, by decide +kernel, rfl, by decide +kernel, by decide +kernel⟩, fun _ _ _ _ _ _ us hl => match us, hl with | [_], _ => rfl⟩
def d__law_bag : DefT := ⟨top 5, "_law_bag", ["_law_script", "_law_cell"], ["_law_script"], false, false, []⟩
theorem ok__law_bag : d__law_bag.Ok := ⟨⟨rfl, rfl, rfl, by decide +kernel, rfl, by decide +kernel, by decide +kernel⟩, fun _ _ _ _ _ _ us hl => match us, hl with | [_], _ => rfl⟩
def d__law_take : DefT := ⟨top 6, "_law_take", ["_law_bag_here", "_law_many", "_law_cell", "_law_stirred_here", "_law_value", "_law_begin", "_law_second"], ["_law_bag_here", "_law_many"], true, false, []⟩
theorem ok__law_take : d__law_take.Ok := ⟨⟨rfl, rfl, rfl, by decide +kernel, rfl, by decide +kernel, by decide +kernel⟩, fun _ _ _ _ _ _ us hl => match us, hl with | [_, _], _ => rfl⟩
def d__law_one : DefT := ⟨top 7, "_law_one", ["_law_bag_here", "_law_things"], ["_law_bag_here", "_law_things"], true, false, []⟩
theorem ok__law_one : d__law_one.Ok := ⟨⟨rfl, rfl, rfl, by decide +kernel, rfl, by decide +kernel, by decide +kernel⟩, fun _ _ _ _ _ _ us hl => match us, hl with | [_, _], _ => rfl⟩
def d__law_mixed : DefT := ⟨top 8, "_law_mixed", ["_law_bag_here", "_law_things", "_law_found", "_law_thing"], ["_law_bag_here", "_law_things"], true, false, []⟩
theorem ok__law_mixed : d__law_mixed.Ok := ⟨⟨rfl, rfl, rfl, by decide +kernel, rfl, by decide +kernel, by decide +kernel⟩, fun _ _ _ _ _ _ us hl => match us, hl with | [_, _], _ => rfl⟩
def d__law_alike : DefT := ⟨top 9, "_law_alike", ["_law_found", "_law_due"], ["_law_found", "_law_due"], false, false, []⟩
theorem ok__law_alike : d__law_alike.Ok := ⟨⟨rfl, rfl, rfl, by decide +kernel, rfl, by decide +kernel, by decide +kernel⟩, fun _ _ _ _ _ _ us hl => match us, hl with | [_, _], _ => rfl⟩
def d__law_flat : DefT := ⟨top 10, "_law_flat", ["_law_rows", "_law_found", "_law_row"], ["_law_rows"], false, false, []⟩
theorem ok__law_flat : d__law_flat.Ok := ⟨⟨rfl, rfl, rfl, by decide +kernel, rfl, by decide +kernel, by decide +kernel⟩, fun _ _ _ _ _ _ us hl => match us, hl with | [_], _ => rfl⟩
def d__law_house : DefT := ⟨top 11, "_law_house", ["_law_bag_here", "_law_things", "_law_floors", "_law_rooms", "_law_many", "_law_found", "_law_left", "_law_floor"], ["_law_bag_here", "_law_things", "_law_floors", "_law_rooms"], true, false, []⟩
theorem ok__law_house : d__law_house.Ok := ⟨⟨rfl, rfl, rfl, by decide +kernel, rfl, by decide +kernel, by decide +kernel⟩, fun _ _ _ _ _ _ us hl => match us, hl with | [_, _, _, _], _ => rfl⟩
def d__law_rooms_within : DefT := ⟨top 12, "_law_rooms_within", ["_law_house_here", "_law_floor"], ["_law_house_here"], false, false, []⟩
theorem ok__law_rooms_within : d__law_rooms_within.Ok := ⟨⟨rfl, rfl, rfl, by decide +kernel, rfl, by decide +kernel, by decide +kernel⟩, fun _ _ _ _ _ _ us hl => match us, hl with | [_], _ => rfl⟩
def d__law_within : DefT := ⟨top 13, "_law_within", ["_law_house_here", "_law_state_here", "_law_floor", "_law_thing"], ["_law_house_here", "_law_state_here", "_law_floor"], false, false, []⟩
theorem ok__law_within : d__law_within.Ok := ⟨⟨rfl, rfl, rfl, by decide +kernel, rfl, by decide +kernel, by decide +kernel⟩, fun _ _ _ _ _ _ us hl => match us, hl with | [_, _, _], _ => rfl⟩
def d__law_sizes : DefT := ⟨top 14, "_law_sizes", ["_law_house_here", "_law_state_here", "_law_floor"], ["_law_house_here", "_law_state_here"], false, false, []⟩
theorem ok__law_sizes : d__law_sizes.Ok := ⟨⟨rfl, rfl, rfl, by decide +kernel, rfl, by decide +kernel, by decide +kernel⟩, fun _ _ _ _ _ _ us hl => match us, hl with | [_, _], _ => rfl⟩
def d__law_state : DefT := ⟨top 15, "_law_state", ["_law_bag_here", "_law_house_here", "_law_many", "_law_rooms", "_law_left", "_law_way", "_law_state_here", "_law_thing", "_law_open_floors", "_law_floor", "_law_free"], ["_law_bag_here", "_law_house_here"], true, false, [4]⟩
theorem ok__law_state : d__law_state.Ok := ⟨⟨rfl, rfl, rfl, by decide +kernel, rfl, by decide +kernel, by decide +kernel⟩, fun _ _ _ _ _ _ us hl => match us, hl with | [_, _], _ => rfl⟩
def d__law_full_state : DefT := ⟨top 16, "_law_full_state", ["_law_bag_here", "_law_house_here", "_law_places", "_law_floor", "_law_rooms"], ["_law_bag_here", "_law_house_here"], true, false, []⟩
theorem ok__law_full_state : d__law_full_state.Ok := ⟨⟨rfl, rfl, rfl, by decide +kernel, rfl, by decide +kernel, by decide +kernel⟩, fun _ _ _ _ _ _ us hl => match us, hl with | [_, _], _ => rfl⟩
def d__law_start : DefT := ⟨top 17, "_law_start", ["_law_bag_here", "_law_house_here", "_law_menu"], ["_law_bag_here", "_law_house_here"], true, false, []⟩
theorem ok__law_start : d__law_start.Ok := ⟨⟨rfl, rfl, rfl, by decide +kernel, rfl, by decide +kernel, by decide +kernel⟩, fun _ _ _ _ _ _ us hl => match us, hl with | [_, _], _ => rfl⟩
def d__law_done : DefT := ⟨top 18, "_law_done", ["_law_house_here", "_law_state_here", "_law_move", "_law_word", "_law_thing", "_law_downs", "_law_floors", "_law_now", "_law_at", "_law_down", "_law_last"], ["_law_house_here", "_law_state_here", "_law_move"], false, false, []⟩
theorem ok__law_done : d__law_done.Ok := ⟨⟨rfl, rfl, rfl, by decide +kernel, rfl, by decide +kernel, by decide +kernel⟩, fun _ _ _ _ _ _ us hl => match us, hl with | [_, _, _], _ => rfl⟩
def d__law_drawn_move : DefT := ⟨top 19, "_law_drawn_move", ["_law_bag_here", "_law_house_here", "_law_state_here", "_law_thing", "_law_way", "_law_downs", "_law_now", "_law_at", "_law_there", "_law_one_here", "_law_down"], ["_law_bag_here", "_law_house_here", "_law_state_here", "_law_thing", "_law_way"], true, false, []⟩
theorem ok__law_drawn_move : d__law_drawn_move.Ok := ⟨⟨rfl, rfl, rfl, by decide +kernel, rfl, by decide +kernel, by decide +kernel⟩, fun _ _ _ _ _ _ us hl => match us, hl with | [_, _, _, _, _], _ => rfl⟩
def d__law_run : DefT := ⟨top 20, "_law_run", ["_law_bag_here", "_law_house_here", "_law_state_here", "_law_many", "_law_strikes", "_law_run_here", "_law_log", "_law_states", "_law_way", "_law_favoured", "_law_turn", "_law_thing", "_law_move"], ["_law_bag_here", "_law_house_here", "_law_state_here", "_law_many", "_law_strikes"], true, false, []⟩
theorem ok__law_run : d__law_run.Ok := ⟨⟨rfl, rfl, rfl, by decide +kernel, rfl, by decide +kernel, by decide +kernel⟩, fun _ _ _ _ _ _ us hl => match us, hl with | [_, _, _, _, _], _ => rfl⟩
def d__law_story : DefT := ⟨top 21, "_law_story", ["_law_bag_here", "_law_house_here", "_law_start_here", "_law_many", "_law_strikes"], ["_law_bag_here", "_law_house_here", "_law_start_here", "_law_many", "_law_strikes"], true, false, []⟩
theorem ok__law_story : d__law_story.Ok := ⟨⟨rfl, rfl, rfl, by decide +kernel, rfl, by decide +kernel, by decide +kernel⟩, fun _ _ _ _ _ _ us hl => match us, hl with | [_, _, _, _, _], _ => rfl⟩
def d__law_all_states : DefT := ⟨top 22, "_law_all_states", ["_law_house_here", "_law_found", "_law_out", "_law_thing", "_law_more", "_law_state_here", "_law_floor", "_law_rooms"], ["_law_house_here"], false, false, []⟩
theorem ok__law_all_states : d__law_all_states.Ok := ⟨⟨rfl, rfl, rfl, by decide +kernel, rfl, by decide +kernel, by decide +kernel⟩, fun _ _ _ _ _ _ us hl => match us, hl with | [_], _ => rfl⟩
def d__law_first_known : DefT := ⟨top 23, "_law_first_known", ["_law_house_here", "_law_start_here", "_law_many", "_law_words", "_law_rooms", "_law_count", "_law_order", "_law_size"], ["_law_house_here", "_law_start_here"], false, true, []⟩
theorem ok__law_first_known : d__law_first_known.Ok := ⟨⟨rfl, rfl, rfl, by decide +kernel, rfl, by decide +kernel, by decide +kernel⟩, fun _ _ _ _ _ _ us hl => match us, hl with | [_, _], _ => rfl⟩
def d__law_tightened : DefT := ⟨top 24, "_law_tightened", ["_law_rows", "_law_sizes_here", "_law_floors", "_law_many", "_law_words", "_law_one_here", "_law_other", "_law_row", "_law_size", "_law_word", "_law_ahead", "_law_count", "_law_floor", "_law_more"], ["_law_rows", "_law_sizes_here"], false, false, []⟩
theorem ok__law_tightened : d__law_tightened.Ok := ⟨⟨rfl, rfl, rfl, by decide +kernel, rfl, by decide +kernel, by decide +kernel⟩, fun _ _ _ _ _ _ us hl => match us, hl with | [_, _], _ => rfl⟩
def d__law_known_sizes : DefT := ⟨top 25, "_law_known_sizes", ["_law_known_here", "_law_word"], ["_law_known_here"], false, false, []⟩
theorem ok__law_known_sizes : d__law_known_sizes.Ok := ⟨⟨rfl, rfl, rfl, by decide +kernel, rfl, by decide +kernel, by decide +kernel⟩, fun _ _ _ _ _ _ us hl => match us, hl with | [_], _ => rfl⟩
def d__law_led : DefT := ⟨top 26, "_law_led", ["_law_house_here", "_law_known_here", "_law_entry", "_law_order", "_law_words", "_law_word", "_law_thing", "_law_found", "_law_place", "_law_sizes_here", "_law_rows", "_law_floor", "_law_row", "_law_less", "_law_later", "_law_one_here", "_law_tight", "_law_rest", "_law_made", "_law_is_less"], ["_law_house_here", "_law_known_here", "_law_entry"], false, false, []⟩
theorem ok__law_led : d__law_led.Ok := ⟨⟨rfl, rfl, rfl, by decide +kernel, rfl, by decide +kernel, by decide +kernel⟩, fun _ _ _ _ _ _ us hl => match us, hl with | [_, _, _], _ => rfl⟩
def d__law_led_by : DefT := ⟨top 27, "_law_led_by", ["_law_house_here", "_law_known_here", "_law_log", "_law_index", "_law_entry", "_law_later"], ["_law_house_here", "_law_known_here", "_law_log"], false, false, []⟩
theorem ok__law_led_by : d__law_led_by.Ok := ⟨⟨rfl, rfl, rfl, by decide +kernel, rfl, by decide +kernel, by decide +kernel⟩, fun _ _ _ _ _ _ us hl => match us, hl with | [_, _, _], _ => rfl⟩
def d__law_fits : DefT := ⟨top 28, "_law_fits", ["_law_house_here", "_law_known_here", "_law_state_here", "_law_floor", "_law_word", "_law_within_here", "_law_count", "_law_thing"], ["_law_house_here", "_law_known_here", "_law_state_here"], false, false, []⟩
theorem ok__law_fits : d__law_fits.Ok := ⟨⟨rfl, rfl, rfl, by decide +kernel, rfl, by decide +kernel, by decide +kernel⟩, fun _ _ _ _ _ _ us hl => match us, hl with | [_, _, _], _ => rfl⟩
def d__law_tight_known : DefT := ⟨top 29, "_law_tight_known", ["_law_bag_here", "_law_house_here", "_law_order", "_law_sizes_here", "_law_size", "_law_rooms", "_law_turn", "_law_rows", "_law_drawn", "_law_count", "_law_way", "_law_words"], ["_law_bag_here", "_law_house_here"], true, false, []⟩
theorem ok__law_tight_known : d__law_tight_known.Ok := ⟨⟨rfl, rfl, rfl, by decide +kernel, rfl, by decide +kernel, by decide +kernel⟩, fun _ _ _ _ _ _ us hl => match us, hl with | [_, _], _ => rfl⟩
def d__law_known : DefT := ⟨top 30, "_law_known", ["_law_bag_here", "_law_house_here", "_law_many", "_law_strikes", "_law_start_here", "_law_run_here", "_law_log", "_law_states"], ["_law_bag_here", "_law_house_here", "_law_many", "_law_strikes"], true, false, []⟩
theorem ok__law_known : d__law_known.Ok := ⟨⟨rfl, rfl, rfl, by decide +kernel, rfl, by decide +kernel, by decide +kernel⟩, fun _ _ _ _ _ _ us hl => match us, hl with | [_, _, _, _], _ => rfl⟩
/-! _law_cuts : 0 _law_word, 1 _law_at -/
def m__law_cuts : MS := (sRet (mComp [1] (itRng [(.ex (mC (.int 1))), (.ex (mBin oSub (.ex (mFn oLen [(.nm 0)])) (.ex (mC (.int 1)))))]) (.nm 1) (mAnd (asT (mBin oGt (.ex (mBin oIx (.nm 0) (.nm 1))) (.ex (mBin oIx (.nm 0) (.ex (mBin oSub (.nm 1) (.ex (mC (.int 1))))))))) (asT (mBin oEq (.ex (mBin oIx (.nm 0) (.ex (mBin oAdd (.nm 1) (.ex (mC (.int 1))))))) (.ex (mBin oIx (.nm 0) (.nm 1)))))) (mV 1)))
def e__law_cuts : FnE := ⟨fnOf 2 m__law_cuts, 1, false⟩
def d__law_cuts : DefT := ⟨top 31, "_law_cuts", ["_law_word", "_law_at"], ["_law_word"], false, false, []⟩
theorem ok__law_cuts : d__law_cuts.Ok := ⟨⟨rfl, rfl, rfl, by decide +kernel, rfl, by decide +kernel, by decide +kernel⟩, fun _ _ _ _ _ _ us hl => match us, hl with | [_], _ => rfl⟩
/-! _law_blocks : 0 _law_known_here, 1 _law_found, 2 _law_word, 3 _law_lots, 4 _law_last, 5 _law_cut -/
def b1__law_blocks : MS := (sSeq (sApp 3 (mTup [(false, (mFn oTuple [(.ex (mFn oSorted [(.ex (mSl (.ex (mBin oIx (.nm 0) (.ex (mC (.int 0))))) (some (mV 4)) (some (mV 5))))]))])), (false, (mBin oIx (.nm 2) (.nm 5)))]))
  (sSet 4 (mV 5)))
def b2__law_blocks : MS := (sSeq (sPar [3, 4] [(mLst []), (mC (.int 0))])
  (sSeq (sFor (itSeq (mCall e__law_cuts [(false, (mV 2))])) (.nm 5) b1__law_blocks)
  (sApp 1 (mFn oTuple [(.nm 3)]))))
def m__law_blocks : MS := (sSeq (sSet 1 (mLst []))
  (sSeq (sFor (itSeq (mBin oIx (.nm 0) (.ex (mC (.int 1))))) (.nm 2) b2__law_blocks)
  (sRet (mFn oTuple [(.nm 1)]))))
def e__law_blocks : FnE := ⟨fnOf 6 m__law_blocks, 1, false⟩
def d__law_blocks : DefT := ⟨top 32, "_law_blocks", ["_law_known_here", "_law_found", "_law_word", "_law_lots", "_law_last", "_law_cut"], ["_law_known_here"], false, false, []⟩
theorem ok__law_blocks : d__law_blocks.Ok := ⟨⟨rfl, rfl, rfl, by decide +kernel, rfl, by decide +kernel, by decide +kernel⟩, fun _ _ _ _ _ _ us hl => match us, hl with | [_], _ => rfl⟩
/-! _law_parts : 0 _law_known_here, 1 _law_found, 2 _law_last, 3 _law_cut, 4 _law_word -/
def b1__law_parts : MS := (sSeq (sApp 1 (mFn oList [(.ex (mSl (.ex (mBin oIx (.nm 0) (.ex (mC (.int 0))))) (some (mV 2)) (some (mV 3))))]))
  (sSet 2 (mV 3)))
def m__law_parts : MS := (sSeq (sPar [1, 2] [(mLst []), (mC (.int 0))])
  (sSeq (sFor (itSeq (mBin oAdd (.ex (mUn oSortSet (.ex (mCall e__law_flat [(false, (mComp [4] (itSeq (mBin oIx (.nm 0) (.ex (mC (.int 1))))) (.nm 4) mYes (mCall e__law_cuts [(false, (mV 4))])))])))) (.ex (mLst [(false, (mFn oLen [(.ex (mBin oIx (.nm 0) (.ex (mC (.int 0)))))]))])))) (.nm 3) b1__law_parts)
  (sRet (mMove 1))))
def e__law_parts : FnE := ⟨fnOf 5 m__law_parts, 1, false⟩
def d__law_parts : DefT := ⟨top 33, "_law_parts", ["_law_known_here", "_law_found", "_law_last", "_law_cut", "_law_word"], ["_law_known_here"], false, false, []⟩
theorem ok__law_parts : d__law_parts.Ok := ⟨⟨rfl, rfl, rfl, by decide +kernel, rfl, by decide +kernel, by decide +kernel⟩, fun _ _ _ _ _ _ us hl => match us, hl with | [_], _ => rfl⟩
/-! _law_normal : 0 _law_known_here, 1 _law_part -/
def m__law_normal : MS := (sRet (mTup [(false, (mFn oTuple [(.ex (mCall e__law_flat [(false, (mComp [1] (itSeq (mCall e__law_parts [(false, (mV 0))])) (.nm 1) mYes (mFn oSorted [(.nm 1)])))]))])), (false, (mBin oIx (.nm 0) (.ex (mC (.int 1)))))]))
def e__law_normal : FnE := ⟨fnOf 2 m__law_normal, 1, false⟩
def d__law_normal : DefT := ⟨top 34, "_law_normal", ["_law_known_here", "_law_part"], ["_law_known_here"], false, false, []⟩
theorem ok__law_normal : d__law_normal.Ok := ⟨⟨rfl, rfl, rfl, by decide +kernel, rfl, by decide +kernel, by decide +kernel⟩, fun _ _ _ _ _ _ us hl => match us, hl with | [_], _ => rfl⟩
/-! _law_stirred : 0 _law_bag_here, 1 _law_known_here, 2 _law_part -/
def m__law_stirred : MS := (sRet (mTup [(false, (mFn oTuple [(.ex (mCall e__law_flat [(false, (mComp [2] (itSeq (mCall e__law_parts [(false, (mV 1))])) (.nm 2) mYes (mCallR e__law_mixed 0 [(false, (mV 2))])))]))])), (false, (mBin oIx (.nm 1) (.ex (mC (.int 1)))))]))
def e__law_stirred : FnE := ⟨fnOf 3 m__law_stirred, 2, true⟩
def d__law_stirred : DefT := ⟨top 35, "_law_stirred", ["_law_bag_here", "_law_known_here", "_law_part"], ["_law_bag_here", "_law_known_here"], true, false, []⟩
theorem ok__law_stirred : d__law_stirred.Ok := ⟨⟨rfl, rfl, rfl, by decide +kernel, rfl, by decide +kernel, by decide +kernel⟩, fun _ _ _ _ _ _ us hl => match us, hl with | [_, _], _ => rfl⟩
def d__law_some_known : DefT := ⟨top 36, "_law_some_known", ["_law_bag_here", "_law_house_here"], ["_law_bag_here", "_law_house_here"], true, false, []⟩
theorem ok__law_some_known : d__law_some_known.Ok := ⟨⟨rfl, rfl, rfl, by decide +kernel, rfl, by decide +kernel, by decide +kernel⟩, fun _ _ _ _ _ _ us hl => match us, hl with | [_, _], _ => rfl⟩
def d__law_states_that_fit : DefT := ⟨top 37, "_law_states_that_fit", ["_law_house_here", "_law_known_here", "_law_state_here"], ["_law_house_here", "_law_known_here"], false, false, []⟩
theorem ok__law_states_that_fit : d__law_states_that_fit.Ok := ⟨⟨rfl, rfl, rfl, by decide +kernel, rfl, by decide +kernel, by decide +kernel⟩, fun _ _ _ _ _ _ us hl => match us, hl with | [_, _], _ => rfl⟩
def d__law_some_house : DefT := ⟨top 38, "_law_some_house", ["_law_bag_here", "_law_menu", "_law_things", "_law_house_here"], ["_law_bag_here", "_law_menu"], true, false, []⟩
theorem ok__law_some_house : d__law_some_house.Ok := ⟨⟨rfl, rfl, rfl, by decide +kernel, rfl, by decide +kernel, by decide +kernel⟩, fun _ _ _ _ _ _ us hl => match us, hl with | [_, _], _ => rfl⟩
/-! law : 0 _law_script, 1 _law_bag_here, 2 _law_turn, 3 _law_house_here, 4 _law_known_here, 5 _law_due, 6 _law_normal_here, 7 _law_shown, 8 _law_other -/
def b1_law : MS := (sSeq (sSet 3 (mCallR e__law_some_house 1 [(false, (mLst [(false, (mC (.int 5))), (false, (mC (.int 16))), (false, (mC (.int 9))), (false, (mC (.int 5)))]))]))
  (sSeq (sSet 4 (mCallR e__law_some_known 1 [(false, (mV 3))]))
  (sSeq (sPar [5, 6, 7] [(mCall e__law_blocks [(false, (mV 4))]), (mCall e__law_normal [(false, (mV 4))]), (mFn oRepr [(.nm 4)])])
  (sSeq (sSet 8 (mCallR e__law_stirred 1 [(false, (mV 4))]))
  (sSeq (sIf (mNot (mT (.ex (mCall e__law_alike [(false, (mLst [(false, (mCall e_blocks_of [(false, (mV 4))])), (false, (mCall e_blocks_of [(false, (mV 8))])), (false, (mCall e_blocks_of [(false, (mV 4))]))])), (false, (mBin oMul (.ex (mLst [(false, (mV 5))])) (.ex (mC (.int 3)))))]))))
  (sRet (mC (.bool false)))
  sNx)
  (sSeq (sIf (mOr (mNot (mT (.ex (mCall e__law_alike [(false, (mLst [(false, (mCall e_normal_of [(false, (mV 4))])), (false, (mCall e_normal_of [(false, (mV 8))])), (false, (mCall e_normal_of [(false, (mV 6))]))])), (false, (mBin oMul (.ex (mLst [(false, (mV 6))])) (.ex (mC (.int 3)))))])))) (asT (mBin oNe (.ex (mFn oRepr [(.nm 4)])) (.nm 7))))
  (sRet (mC (.bool false)))
  sNx)
  (sIf (mAnd (asT (mBin oLt (.ex (mBin oIx (.nm 3) (.ex (mC (.int 0))))) (.ex (mC (.int 6))))) (mAnd (asT (mBin oLt (.ex (mFn oSum [(.ex (mBin oIx (.nm 3) (.ex (mC (.int 1)))))])) (.ex (mC (.int 7))))) (asT (mBin oLt (.ex (mFn oLen [(.ex (mBin oIx (.nm 3) (.ex (mC (.int 1)))))])) (.ex (mC (.int 4)))))))
  (sIf (asT (mBin oNe (.ex (mCall e__law_states_that_fit [(false, (mV 3)), (false, (mCall e_normal_of [(false, (mV 8))]))])) (.ex (mCall e__law_states_that_fit [(false, (mV 3)), (false, (mV 4))]))))
  (sRet (mC (.bool false)))
  sNx)
  sNx)))))))
def m_law : MS := (sSeq (sSet 1 (mCall e__law_bag [(false, (mV 0))]))
  (sSeq (sFor (itRng [(.ex (mC (.int 6)))]) (.nm 2) b1_law)
  (sRet (mC (.bool true)))))
def e_law : FnE := ⟨fnOf 9 m_law, 1, false⟩
def d_law : DefT := ⟨top 39, "law", ["_law_script", "_law_bag_here", "_law_turn", "_law_house_here", "_law_known_here", "_law_due", "_law_normal_here", "_law_shown", "_law_other"], ["_law_script"], false, false, []⟩
theorem ok_law : d_law.Ok := ⟨⟨rfl, rfl, rfl, by decide +kernel, rfl, by decide +kernel, by decide +kernel⟩, fun _ _ _ _ _ _ us hl => match us, hl with | [_], _ => rfl⟩
def ds : List (DefT × MS) := [(d_cuts_of, m_cuts_of), (d_blocks_of, m_blocks_of), (d_normal_of, m_normal_of), (d__law_bag, m__law_bag), (d__law_take, m__law_take), (d__law_one, m__law_one), (d__law_mixed, m__law_mixed), (d__law_alike, m__law_alike), (d__law_flat, m__law_flat), (d__law_house, m__law_house), (d__law_rooms_within, m__law_rooms_within), (d__law_within, m__law_within), (d__law_sizes, m__law_sizes), (d__law_state, m__law_state), (d__law_full_state, m__law_full_state), (d__law_start, m__law_start), (d__law_done, m__law_done), (d__law_drawn_move, m__law_drawn_move), (d__law_run, m__law_run), (d__law_story, m__law_story), (d__law_all_states, m__law_all_states), (d__law_first_known, m__law_first_known), (d__law_tightened, m__law_tightened), (d__law_known_sizes, m__law_known_sizes), (d__law_led, m__law_led), (d__law_led_by, m__law_led_by), (d__law_fits, m__law_fits), (d__law_tight_known, m__law_tight_known), (d__law_known, m__law_known), (d__law_cuts, m__law_cuts), (d__law_blocks, m__law_blocks), (d__law_parts, m__law_parts), (d__law_normal, m__law_normal), (d__law_stirred, m__law_stirred), (d__law_some_known, m__law_some_known), (d__law_states_that_fit, m__law_states_that_fit), (d__law_some_house, m__law_some_house)]
abbrev LL0 : List (Str × FnE) := []
theorem rd_cuts_of : ((reading 40).ss (d_cuts_of.tc (look LL0)) (defBody d_cuts_of.st)).map (·.1) = some m_cuts_of := by kernel_rfl
abbrev LL1 : List (Str × FnE) := (d_cuts_of.x, feOf d_cuts_of m_cuts_of) :: LL0
theorem rd_blocks_of : ((reading 40).ss (d_blocks_of.tc (look LL1)) (defBody d_blocks_of.st)).map (·.1) = some m_blocks_of := by kernel_rfl
abbrev LL2 : List (Str × FnE) := (d_blocks_of.x, feOf d_blocks_of m_blocks_of) :: LL1
theorem rd_normal_of : ((reading 40).ss (d_normal_of.tc (look LL2)) (defBody d_normal_of.st)).map (·.1) = some m_normal_of := by kernel_rfl
abbrev LL3 : List (Str × FnE) := (d_normal_of.x, feOf d_normal_of m_normal_of) :: LL2
theorem rd__law_bag : ((reading 40).ss (d__law_bag.tc (look LL3)) (defBody d__law_bag.st)).map (·.1) = some m__law_bag := by kernel_rfl
abbrev LL4 : List (Str × FnE) := (d__law_bag.x, feOf d__law_bag m__law_bag) :: LL3
theorem rd__law_take : ((reading 40).ss (d__law_take.tc (look LL4)) (defBody d__law_take.st)).map (·.1) = some m__law_take := by kernel_rfl
abbrev LL5 : List (Str × FnE) := (d__law_take.x, feOf d__law_take m__law_take) :: LL4
theorem rd__law_one : ((reading 40).ss (d__law_one.tc (look LL5)) (defBody d__law_one.st)).map (·.1) = some m__law_one := by kernel_rfl
abbrev LL6 : List (Str × FnE) := (d__law_one.x, feOf d__law_one m__law_one) :: LL5
theorem rd__law_mixed : ((reading 40).ss (d__law_mixed.tc (look LL6)) (defBody d__law_mixed.st)).map (·.1) = some m__law_mixed := by kernel_rfl
abbrev LL7 : List (Str × FnE) := (d__law_mixed.x, feOf d__law_mixed m__law_mixed) :: LL6
theorem rd__law_alike : ((reading 40).ss (d__law_alike.tc (look LL7)) (defBody d__law_alike.st)).map (·.1) = some m__law_alike := by kernel_rfl
abbrev LL8 : List (Str × FnE) := (d__law_alike.x, feOf d__law_alike m__law_alike) :: LL7
theorem rd__law_flat : ((reading 40).ss (d__law_flat.tc (look LL8)) (defBody d__law_flat.st)).map (·.1) = some m__law_flat := by kernel_rfl
abbrev LL9 : List (Str × FnE) := (d__law_flat.x, feOf d__law_flat m__law_flat) :: LL8
theorem rd__law_house : ((reading 40).ss (d__law_house.tc (look LL9)) (defBody d__law_house.st)).map (·.1) = some m__law_house := by kernel_rfl
abbrev LL10 : List (Str × FnE) := (d__law_house.x, feOf d__law_house m__law_house) :: LL9
theorem rd__law_rooms_within : ((reading 40).ss (d__law_rooms_within.tc (look LL10)) (defBody d__law_rooms_within.st)).map (·.1) = some m__law_rooms_within := by kernel_rfl
abbrev LL11 : List (Str × FnE) := (d__law_rooms_within.x, feOf d__law_rooms_within m__law_rooms_within) :: LL10
theorem rd__law_within : ((reading 40).ss (d__law_within.tc (look LL11)) (defBody d__law_within.st)).map (·.1) = some m__law_within := by kernel_rfl
abbrev LL12 : List (Str × FnE) := (d__law_within.x, feOf d__law_within m__law_within) :: LL11
theorem rd__law_sizes : ((reading 40).ss (d__law_sizes.tc (look LL12)) (defBody d__law_sizes.st)).map (·.1) = some m__law_sizes := by kernel_rfl
abbrev LL13 : List (Str × FnE) := (d__law_sizes.x, feOf d__law_sizes m__law_sizes) :: LL12
theorem rd__law_state : ((reading 40).ss (d__law_state.tc (look LL13)) (defBody d__law_state.st)).map (·.1) = some m__law_state := by kernel_rfl
abbrev LL14 : List (Str × FnE) := (d__law_state.x, feOf d__law_state m__law_state) :: LL13
theorem rd__law_full_state : ((reading 40).ss (d__law_full_state.tc (look LL14)) (defBody d__law_full_state.st)).map (·.1) = some m__law_full_state := by kernel_rfl
abbrev LL15 : List (Str × FnE) := (d__law_full_state.x, feOf d__law_full_state m__law_full_state) :: LL14
theorem rd__law_start : ((reading 40).ss (d__law_start.tc (look LL15)) (defBody d__law_start.st)).map (·.1) = some m__law_start := by kernel_rfl
abbrev LL16 : List (Str × FnE) := (d__law_start.x, feOf d__law_start m__law_start) :: LL15
theorem rd__law_done : ((reading 40).ss (d__law_done.tc (look LL16)) (defBody d__law_done.st)).map (·.1) = some m__law_done := by kernel_rfl
abbrev LL17 : List (Str × FnE) := (d__law_done.x, feOf d__law_done m__law_done) :: LL16
theorem rd__law_drawn_move : ((reading 40).ss (d__law_drawn_move.tc (look LL17)) (defBody d__law_drawn_move.st)).map (·.1) = some m__law_drawn_move := by kernel_rfl
abbrev LL18 : List (Str × FnE) := (d__law_drawn_move.x, feOf d__law_drawn_move m__law_drawn_move) :: LL17
theorem rd__law_run : ((reading 40).ss (d__law_run.tc (look LL18)) (defBody d__law_run.st)).map (·.1) = some m__law_run := by kernel_rfl
abbrev LL19 : List (Str × FnE) := (d__law_run.x, feOf d__law_run m__law_run) :: LL18
theorem rd__law_story : ((reading 40).ss (d__law_story.tc (look LL19)) (defBody d__law_story.st)).map (·.1) = some m__law_story := by kernel_rfl
abbrev LL20 : List (Str × FnE) := (d__law_story.x, feOf d__law_story m__law_story) :: LL19
theorem rd__law_all_states : ((reading 40).ss (d__law_all_states.tc (look LL20)) (defBody d__law_all_states.st)).map (·.1) = some m__law_all_states := by kernel_rfl
abbrev LL21 : List (Str × FnE) := (d__law_all_states.x, feOf d__law_all_states m__law_all_states) :: LL20
theorem rd__law_first_known : ((reading 40).ss (d__law_first_known.tc (look LL21)) (defBody d__law_first_known.st)).map (·.1) = some m__law_first_known := by kernel_rfl
abbrev LL22 : List (Str × FnE) := (d__law_first_known.x, feOf d__law_first_known m__law_first_known) :: LL21
theorem rd__law_tightened : ((reading 40).ss (d__law_tightened.tc (look LL22)) (defBody d__law_tightened.st)).map (·.1) = some m__law_tightened := by kernel_rfl
abbrev LL23 : List (Str × FnE) := (d__law_tightened.x, feOf d__law_tightened m__law_tightened) :: LL22
theorem rd__law_known_sizes : ((reading 40).ss (d__law_known_sizes.tc (look LL23)) (defBody d__law_known_sizes.st)).map (·.1) = some m__law_known_sizes := by kernel_rfl
abbrev LL24 : List (Str × FnE) := (d__law_known_sizes.x, feOf d__law_known_sizes m__law_known_sizes) :: LL23
theorem rd__law_led : ((reading 40).ss (d__law_led.tc (look LL24)) (defBody d__law_led.st)).map (·.1) = some m__law_led := by kernel_rfl
abbrev LL25 : List (Str × FnE) := (d__law_led.x, feOf d__law_led m__law_led) :: LL24
theorem rd__law_led_by : ((reading 40).ss (d__law_led_by.tc (look LL25)) (defBody d__law_led_by.st)).map (·.1) = some m__law_led_by := by kernel_rfl
abbrev LL26 : List (Str × FnE) := (d__law_led_by.x, feOf d__law_led_by m__law_led_by) :: LL25
theorem rd__law_fits : ((reading 40).ss (d__law_fits.tc (look LL26)) (defBody d__law_fits.st)).map (·.1) = some m__law_fits := by kernel_rfl
abbrev LL27 : List (Str × FnE) := (d__law_fits.x, feOf d__law_fits m__law_fits) :: LL26
theorem rd__law_tight_known : ((reading 40).ss (d__law_tight_known.tc (look LL27)) (defBody d__law_tight_known.st)).map (·.1) = some m__law_tight_known := by kernel_rfl
abbrev LL28 : List (Str × FnE) := (d__law_tight_known.x, feOf d__law_tight_known m__law_tight_known) :: LL27
theorem rd__law_known : ((reading 40).ss (d__law_known.tc (look LL28)) (defBody d__law_known.st)).map (·.1) = some m__law_known := by kernel_rfl
abbrev LL29 : List (Str × FnE) := (d__law_known.x, feOf d__law_known m__law_known) :: LL28
theorem rd__law_cuts : ((reading 40).ss (d__law_cuts.tc (look LL29)) (defBody d__law_cuts.st)).map (·.1) = some m__law_cuts := by kernel_rfl
abbrev LL30 : List (Str × FnE) := (d__law_cuts.x, feOf d__law_cuts m__law_cuts) :: LL29
theorem rd__law_blocks : ((reading 40).ss (d__law_blocks.tc (look LL30)) (defBody d__law_blocks.st)).map (·.1) = some m__law_blocks := by kernel_rfl
abbrev LL31 : List (Str × FnE) := (d__law_blocks.x, feOf d__law_blocks m__law_blocks) :: LL30
theorem rd__law_parts : ((reading 40).ss (d__law_parts.tc (look LL31)) (defBody d__law_parts.st)).map (·.1) = some m__law_parts := by kernel_rfl
abbrev LL32 : List (Str × FnE) := (d__law_parts.x, feOf d__law_parts m__law_parts) :: LL31
theorem rd__law_normal : ((reading 40).ss (d__law_normal.tc (look LL32)) (defBody d__law_normal.st)).map (·.1) = some m__law_normal := by kernel_rfl
abbrev LL33 : List (Str × FnE) := (d__law_normal.x, feOf d__law_normal m__law_normal) :: LL32
theorem rd__law_stirred : ((reading 40).ss (d__law_stirred.tc (look LL33)) (defBody d__law_stirred.st)).map (·.1) = some m__law_stirred := by kernel_rfl
abbrev LL34 : List (Str × FnE) := (d__law_stirred.x, feOf d__law_stirred m__law_stirred) :: LL33
theorem rd__law_some_known : ((reading 40).ss (d__law_some_known.tc (look LL34)) (defBody d__law_some_known.st)).map (·.1) = some m__law_some_known := by kernel_rfl
abbrev LL35 : List (Str × FnE) := (d__law_some_known.x, feOf d__law_some_known m__law_some_known) :: LL34
theorem rd__law_states_that_fit : ((reading 40).ss (d__law_states_that_fit.tc (look LL35)) (defBody d__law_states_that_fit.st)).map (·.1) = some m__law_states_that_fit := by kernel_rfl
abbrev LL36 : List (Str × FnE) := (d__law_states_that_fit.x, feOf d__law_states_that_fit m__law_states_that_fit) :: LL35
theorem rd__law_some_house : ((reading 40).ss (d__law_some_house.tc (look LL36)) (defBody d__law_some_house.st)).map (·.1) = some m__law_some_house := by kernel_rfl
abbrev LL37 : List (Str × FnE) := (d__law_some_house.x, feOf d__law_some_house m__law_some_house) :: LL36
theorem rd_law : ((reading 40).ss (d_law.tc (look LL37)) (defBody d_law.st)).map (·.1) = some m_law := by kernel_rfl
abbrev LL38 : List (Str × FnE) := (d_law.x, feOf d_law m_law) :: LL37
theorem reads : Reads 40 [] (ds ++ [(d_law, m_law)]) := ⟨rd_cuts_of, ok_cuts_of, rd_blocks_of, ok_blocks_of, rd_normal_of, ok_normal_of, rd__law_bag, ok__law_bag, rd__law_take, ok__law_take, rd__law_one, ok__law_one, rd__law_mixed, ok__law_mixed, rd__law_alike, ok__law_alike, rd__law_flat, ok__law_flat, rd__law_house, ok__law_house, rd__law_rooms_within, ok__law_rooms_within, rd__law_within, ok__law_within, rd__law_sizes, ok__law_sizes, rd__law_state, ok__law_state, rd__law_full_state, ok__law_full_state, rd__law_start, ok__law_start, rd__law_done, ok__law_done, rd__law_drawn_move, ok__law_drawn_move, rd__law_run, ok__law_run, rd__law_story, ok__law_story, rd__law_all_states, ok__law_all_states, rd__law_first_known, ok__law_first_known, rd__law_tightened, ok__law_tightened, rd__law_known_sizes, ok__law_known_sizes, rd__law_led, ok__law_led, rd__law_led_by, ok__law_led_by, rd__law_fits, ok__law_fits, rd__law_tight_known, ok__law_tight_known, rd__law_known, ok__law_known, rd__law_cuts, ok__law_cuts, rd__law_blocks, ok__law_blocks, rd__law_parts, ok__law_parts, rd__law_normal, ok__law_normal, rd__law_stirred, ok__law_stirred, rd__law_some_known, ok__law_some_known, rd__law_states_that_fit, ok__law_states_that_fit, rd__law_some_house, ok__law_some_house, rd_law, ok_law, trivial⟩
def loose0 : List PySem.Str := ["cuts_of", "blocks_of", "normal_of", "_law_bag", "_law_take", "_law_one", "_law_mixed", "_law_alike", "_law_flat", "_law_house", "_law_rooms_within", "_law_within", "_law_sizes", "_law_state", "_law_full_state", "_law_start", "_law_done", "_law_drawn_move", "_law_run", "_law_story", "_law_all_states", "_law_first_known", "_law_tightened", "_law_known_sizes", "_law_led", "_law_led_by", "_law_fits", "_law_tight_known", "_law_known", "_law_cuts"]
def loose1 : List PySem.Str := ["_law_blocks", "_law_parts", "_law_normal", "_law_stirred", "_law_some_known", "_law_states_that_fit", "_law_some_house"]
def loose : List PySem.Str := loose0 ++ loose1
abbrev Rw : PySem.W.OpenRow := PySem.W.OpenLaw.row PySem.Challenge.rw_floorkeepers_k35_blocks_and_normal_order
def hfn : List He.DefD := FK.fnL (ds ++ [(d_law, m_law)])
def hfa : List He.Fa := FK.faOf (ds ++ [(d_law, m_law)])
def htf : List He.Defn := FK.tfL (ds ++ [(d_law, m_law)])
abbrev hkk : PySem.W.Hook := He.hookX 4 hfa hfn [] htf (FK.exL (ds ++ [(d_law, m_law)]))
def hob (s : PySem.W.SharedT) : He.AlX := He.obsX 4 hfa hfn [] htf (FK.exL (ds ++ [(d_law, m_law)])) (HandSHeadRun.getT s)
theorem hob_eq (s : PySem.W.SharedT) : hob s = hkk.obs s.abs := He.obsX_eq (HandSHeadRun.getT_eq s)
set_option maxHeartbeats 0 in
theorem hrun (w : World) : HandSHeadRun.RunEq Rw (PySem.W.view Rw.prog [39]) hkk hob 2000 loose w := by
  intro os
  kernel_rfl
end K35

/-! K35n: cuts of words, blocks between them. -/
namespace K35
open PySem FK FW
def cutP (w : List Int) (p : Nat) : Prop := w.getD (p - 1) 0 < w.getD p 0 ∧ w.getD (p + 1) 0 = w.getD p 0
instance (w : List Int) (p : Nat) : Decidable (cutP w p) := inferInstanceAs (Decidable (_ ∧ _))
def cutsL (w : List Int) : List Nat := (List.range' 1 (w.length - 1 - 1)).filter fun p => decide (cutP w p)
theorem cuts_mem {w : List Int} {p : Nat} : p ∈ cutsL w ↔ 1 ≤ p ∧ p + 1 < w.length ∧ cutP w p := by
  unfold cutsL
  rw [List.mem_filter, List.mem_range'_1]
  constructor
  · rintro ⟨h1, h2⟩
    exact ⟨by omega, by omega, of_decide_eq_true h2⟩
  · rintro ⟨h1, h2, h3⟩
    exact ⟨by omega, decide_eq_true h3⟩
theorem rng_cut {w : List Int} (h0 : w ≠ []) (h1 : w.length ≤ 1000) : rngOf [.int 1, .int ((w.length : Int) - 1)] = some ((List.range' 1 (w.length - 1 - 1)).map fun (k : Nat) => PyData.int (k : Int)) := by
  have : 0 < w.length := List.length_pos_iff.mpr h0
  rw [show (w.length : Int) - 1 = ((w.length - 1 : Nat) : Int) by omega]
  exact rng_from1 (by omega)
theorem cuts_ok {w : List Int} (h0 : w ≠ []) (h1 : w.length ≤ 1000) : wpF (e_cuts_of.f [.fz (tupI w)]) fun v _ => v = .ow (natsD (cutsL w)) := by
  show wpF (fnOf 2 m_cuts_of _) _
  rw [wpF_fnOf]
  unfold m_cuts_of
  simp_arith [rng_cut h0 h1]
  refine wp_compP (enc := fun (k : Nat) => PyData.int (k : Int)) (g := fun p => if cutP w p then [.int (p : Int)] else []) (fun k hk => ?_) ?_
  · have hk' := List.mem_range'_1.mp hk
    have e1 := getAt_ints (w := w) (i := (k : Int) - 1) (k := k - 1) (by omega) (by omega)
    have e2 := getAt_ints (w := w) (i := (k : Int)) (k := k) rfl (by omega)
    have e3 := getAt_ints (w := w) (i := (k : Int) + 1) (k := k + 1) (by omega) (by omega)
    simp_arith [e1, e2, e3]
    by_cases c1 : w.getD (k - 1) 0 < w.getD k 0
    · rw [if_pos c1]
      by_cases c2 : w.getD k 0 = w.getD (k + 1) 0
      · rw [if_pos c2, if_pos (show cutP w k from ⟨c1, c2.symm⟩)]
      · rw [if_neg c2, if_neg (show ¬cutP w k from fun h => c2 h.2.symm)]
    · rw [if_neg c1, if_neg (show ¬cutP w k from fun h => c1 h.1)]
  · rw [flat_sel]
    rfl
theorem law_cuts_ok {w : List Int} (h0 : w ≠ []) (h1 : w.length ≤ 1000) : wpF (e__law_cuts.f [.fz (tupI w)]) fun v _ => v = .ow (natsD (cutsL w)) := by
  show wpF (fnOf 2 m__law_cuts _) _
  rw [wpF_fnOf]
  unfold m__law_cuts
  simp_arith [rng_cut h0 h1]
  refine wp_compP (enc := fun (k : Nat) => PyData.int (k : Int)) (g := fun p => if cutP w p then [.int (p : Int)] else []) (fun k hk => ?_) ?_
  · have hk' := List.mem_range'_1.mp hk
    have e1 := getAt_ints (w := w) (i := (k : Int) - 1) (k := k - 1) (by omega) (by omega)
    have e2 := getAt_ints (w := w) (i := (k : Int)) (k := k) rfl (by omega)
    have e3 := getAt_ints (w := w) (i := (k : Int) + 1) (k := k + 1) (by omega) (by omega)
    simp_arith [e1, e2, e3]
    by_cases c1 : w.getD (k - 1) 0 < w.getD k 0
    · rw [if_pos c1]
      by_cases c2 : w.getD (k + 1) 0 = w.getD k 0
      · rw [if_pos c2, if_pos (show cutP w k from ⟨c1, c2⟩)]
      · rw [if_neg c2, if_neg (show ¬cutP w k from fun h => c2 h.2)]
    · rw [if_neg c1, if_neg (show ¬cutP w k from fun h => c1 h.1)]
  · rw [flat_sel]
    rfl
end K35

/-! K35o: blocks. -/
namespace K35
open PySem FK FW
def sortN (l : List Nat) : List Nat := l.mergeSort fun a b => decide (a ≤ b)
theorem sortN_map (l : List Nat) : (l.map fun (k : Nat) => (k : Int)).mergeSort (fun a b => decide (a ≤ b)) = (sortN l).map fun (k : Nat) => (k : Int) := by
  unfold sortN
  rw [List.map_mergeSort (s := fun (a b : Int) => decide (a ≤ b))]
  intro a _ b _
  exact decide_eq_decide.mpr Int.ofNat_le.symm
theorem sorted_TN (l : List Nat) : oSorted [.tuple (natsD l)] = some (.ow (natsD (sortN l))) := by
  have := sorted_T (l.map fun (k : Nat) => (k : Int))
  rw [sortN_map, List.map_map, List.map_map] at this
  exact this
theorem sorted_LN (l : List Nat) : oSorted [.list (natsD l)] = some (.ow (natsD (sortN l))) := by
  have := sorted_L (l.map fun (k : Nat) => (k : Int))
  rw [sortN_map, List.map_map, List.map_map] at this
  exact this
def seg (ord : List Nat) (a b : Nat) : List Nat := (ord.drop a).take (b - a)
theorem cut_seg {ord : List Nat} {a b : Nat} (h : a ≤ b) (hb : b ≤ ord.length) : cutD (natsD ord) (some (a : Int)) (some (b : Int)) = natsD (seg ord a b) := cut_mid _ ord a b _ _ rfl rfl h hb
def blkG (ord : List Nat) (w : List Int) : Nat → List Nat → List (List Nat × Int)
  | _, [] => []
  | b, c :: cs => (sortN (seg ord b c), w.getD c 0) :: blkG ord w c cs
def bkD (p : List Nat × Int) : FK.D := .tuple [.tuple (natsD p.1), .int p.2]
def bksD (l : List (List Nat × Int)) : FK.D := .tuple (l.map bkD)
def blkL (ord : List Nat) (W : List (List Int)) : List (List (List Nat × Int)) := W.map fun w => blkG ord w 0 (cutsL w)
theorem cuts_pw (w : List Int) : (0 :: cutsL w).Pairwise (· ≤ ·) := by
  refine List.pairwise_cons.mpr ⟨fun _ _ => Nat.zero_le _, ?_⟩
  exact ((List.pairwise_lt_range' (s := 1) (step := 1)).imp (fun h => Nat.le_of_lt h)).filter _
theorem cuts_len (w : List Int) : (cutsL w).length ≤ w.length := by
  refine Nat.le_trans (List.length_filter_le _ _) ?_
  rw [List.length_range']; omega
theorem blocks_ok {m : Nat} {ord : List Nat} {W : List (List Int)} (hm : m ≤ 100) (ho : ord.length = m) (hL : Len m W) (hW : W.length ≤ 1000) : wpF (e_blocks_of.f [.fz (knD ord W)]) fun v _ => v = .fz (.tuple ((blkL ord W).map bksD)) := by
  show wpF (fnOf 7 m_blocks_of _) _
  rw [wpF_fnOf]
  unfold m_blocks_of
  simp_arith
  refine wp_forL (enc := tupI) (fun done rest ρ => ∃ out x3 x4 x5 x6, ρ = [some (.fz (knD ord W)), some (.fz (.tuple (natsD ord))), some (.ow (out.map bksD)), x3, x4, x5, x6] ∧ out ++ blkL ord rest = blkL ord W ∧ out.length + rest.length ≤ 1000 ∧ (∀ w ∈ rest, w ∈ W)) (fun done w rest ρ h => ?_) (fun done ρ h => ?_) _ [] _ ⟨[], none, none, none, none, rfl, rfl, by simpa using hW, fun _ h => h⟩
  · obtain ⟨out, x3, x4, x5, x6, rfl, h1, h2, h3⟩ := h
    have lw := hL w (h3 w (List.mem_cons_self ..))
    have w0 : w ≠ [] := by intro e; rw [e] at lw; exact absurd lw (by simp)
    unfold b2_blocks_of
    simp_arith
    refine ⟨rfl, (cuts_ok w0 (by omega)).mono ?_⟩
    rintro _ _ rfl
    simp_arith
    refine wp_forL (enc := fun (k : Nat) => PyData.int (k : Int)) (fun dn rs ρ => ∃ (o2 : List (List Nat × Int)) (b : Nat), ∃ x6, ρ = [some (.fz (knD ord W)), some (.fz (.tuple (natsD ord))), some (.ow (out.map bksD)), some (.fz (tupI w)), some (.ow (o2.map bkD)), some (.fz (.int (b : Int))), x6] ∧ o2 ++ blkG ord w b rs = blkG ord w 0 (cutsL w) ∧ o2.length + rs.length ≤ w.length ∧ (b :: rs).Pairwise (· ≤ ·) ∧ (∀ c ∈ rs, c ∈ cutsL w)) (fun dn c rs ρ h => ?_) (fun dn ρ h => ?_) _ [] _ ⟨[], 0, _, rfl, rfl, by simpa using cuts_len w, cuts_pw w, fun _ h => h⟩
    · obtain ⟨o2, b, x6, rfl, g1, g2, g3, g4⟩ := h
      obtain ⟨c1, c2, c3⟩ := cuts_mem.mp (g4 c (List.mem_cons_self ..))
      have hbc : b ≤ c := (List.pairwise_cons.mp g3).1 c (List.mem_cons_self ..)
      have e := cut_seg (ord := ord) hbc (by omega)
      have e2 := getAt_ints (w := w) (i := (c : Int)) (k := c) rfl (by omega)
      have l2 : o2.length < 16777216 := by rw [List.length_cons] at g2; omega
      unfold b1_blocks_of
      simp_arith [e, e2, l2, sorted_TN]
      exact ⟨o2 ++ [(sortN (seg ord b c), w.getD c 0)], c, _, by rw [List.map_append]; rfl, by rw [← g1, List.append_assoc]; rfl, by rw [List.length_append]; simp only [List.length_cons, List.length_nil] at g2 ⊢; omega, (List.pairwise_cons.mp g3).2, fun x hx => g4 x (List.mem_cons_of_mem _ hx)⟩
    · obtain ⟨o2, b, x6, rfl, g1, g2, g3, g4⟩ := h
      have l1 : out.length < 16777216 := by rw [List.length_cons] at h2; omega
      simp_arith [l1]
      exact ⟨out ++ [blkG ord w 0 (cutsL w)], _, _, _, _, by rw [List.map_append, show o2 = blkG ord w 0 (cutsL w) by rw [← g1]; exact (List.append_nil _).symm]; rfl, by rw [← h1, List.append_assoc]; rfl, by rw [List.length_append]; simp only [List.length_cons, List.length_nil] at h2 ⊢; omega, fun x hx => h3 x (List.mem_cons_of_mem _ hx)⟩
  · obtain ⟨out, x3, x4, x5, x6, rfl, h1, h2, h3⟩ := h
    simp_arith
    rw [← h1, show blkL ord [] = [] from rfl, List.append_nil]
theorem law_blocks_ok {m : Nat} {ord : List Nat} {W : List (List Int)} (hm : m ≤ 100) (ho : ord.length = m) (hL : Len m W) (hW : W.length ≤ 1000) : wpF (e__law_blocks.f [.fz (knD ord W)]) fun v _ => v = .fz (.tuple ((blkL ord W).map bksD)) := by
  show wpF (fnOf 6 m__law_blocks _) _
  rw [wpF_fnOf]
  unfold m__law_blocks
  simp_arith
  refine wp_forL (enc := tupI) (fun done rest ρ => ∃ out x3 x4 x5 x6, ρ = [some (.fz (knD ord W)), some (.ow (out.map bksD)), x3, x4, x5, x6] ∧ out ++ blkL ord rest = blkL ord W ∧ out.length + rest.length ≤ 1000 ∧ (∀ w ∈ rest, w ∈ W)) (fun done w rest ρ h => ?_) (fun done ρ h => ?_) _ [] _ ⟨[], none, none, none, none, rfl, rfl, by simpa using hW, fun _ h => h⟩
  · obtain ⟨out, x3, x4, x5, x6, rfl, h1, h2, h3⟩ := h
    have lw := hL w (h3 w (List.mem_cons_self ..))
    have w0 : w ≠ [] := by intro e; rw [e] at lw; exact absurd lw (by simp)
    unfold b2__law_blocks
    simp_arith
    refine ⟨rfl, (law_cuts_ok w0 (by omega)).mono ?_⟩
    rintro _ _ rfl
    simp_arith
    refine wp_forL (enc := fun (k : Nat) => PyData.int (k : Int)) (fun dn rs ρ => ∃ (o2 : List (List Nat × Int)) (b : Nat), ∃ x6, ρ = [some (.fz (knD ord W)), some (.ow (out.map bksD)), some (.fz (tupI w)), some (.ow (o2.map bkD)), some (.fz (.int (b : Int))), x6] ∧ o2 ++ blkG ord w b rs = blkG ord w 0 (cutsL w) ∧ o2.length + rs.length ≤ w.length ∧ (b :: rs).Pairwise (· ≤ ·) ∧ (∀ c ∈ rs, c ∈ cutsL w)) (fun dn c rs ρ h => ?_) (fun dn ρ h => ?_) _ [] _ ⟨[], 0, _, rfl, rfl, by simpa using cuts_len w, cuts_pw w, fun _ h => h⟩
    · obtain ⟨o2, b, x6, rfl, g1, g2, g3, g4⟩ := h
      obtain ⟨c1, c2, c3⟩ := cuts_mem.mp (g4 c (List.mem_cons_self ..))
      have hbc : b ≤ c := (List.pairwise_cons.mp g3).1 c (List.mem_cons_self ..)
      have e := cut_seg (ord := ord) hbc (by omega)
      have e2 := getAt_ints (w := w) (i := (c : Int)) (k := c) rfl (by omega)
      have l2 : o2.length < 16777216 := by rw [List.length_cons] at g2; omega
      unfold b1__law_blocks
      simp_arith [e, e2, l2, sorted_TN]
      exact ⟨o2 ++ [(sortN (seg ord b c), w.getD c 0)], c, _, by rw [List.map_append]; rfl, by rw [← g1, List.append_assoc]; rfl, by rw [List.length_append]; simp only [List.length_cons, List.length_nil] at g2 ⊢; omega, (List.pairwise_cons.mp g3).2, fun x hx => g4 x (List.mem_cons_of_mem _ hx)⟩
    · obtain ⟨o2, b, x6, rfl, g1, g2, g3, g4⟩ := h
      have l1 : out.length < 16777216 := by rw [List.length_cons] at h2; omega
      simp_arith [l1]
      exact ⟨out ++ [blkG ord w 0 (cutsL w)], _, _, _, _, by rw [List.map_append, show o2 = blkG ord w 0 (cutsL w) by rw [← g1]; exact (List.append_nil _).symm]; rfl, by rw [← h1, List.append_assoc]; rfl, by rw [List.length_append]; simp only [List.length_cons, List.length_nil] at h2 ⊢; omega, fun x hx => h3 x (List.mem_cons_of_mem _ hx)⟩
  · obtain ⟨out, x3, x4, x5, x6, rfl, h1, h2, h3⟩ := h
    simp_arith
    rw [← h1, show blkL ord [] = [] from rfl, List.append_nil]
end K35

/-! K35p: parts, the law's own normal order, stirred. -/
namespace K35
open PySem FK FW
def isCut (W : List (List Int)) (p : Nat) : Prop := ∃ w ∈ W, p ∈ cutsL w
instance (W : List (List Int)) (p : Nat) : Decidable (isCut W p) := inferInstanceAs (Decidable (∃ w ∈ W, p ∈ cutsL w))
def cutsA (m : Nat) (W : List (List Int)) : List Nat := (List.range' 1 (m - 1)).filter fun p => decide (isCut W p)
theorem cutsA_mem {m : Nat} {W : List (List Int)} (hL : Len m W) {p : Nat} : p ∈ cutsA m W ↔ isCut W p := by
  unfold cutsA
  rw [List.mem_filter, List.mem_range'_1]
  constructor
  · exact fun h => of_decide_eq_true h.2
  · intro h
    refine ⟨?_, decide_eq_true h⟩
    obtain ⟨w, hw, hp⟩ := h
    have := cuts_mem.mp hp
    have := hL w hw
    omega
theorem cutsA_lt {m : Nat} {W : List (List Int)} {p : Nat} (h : p ∈ cutsA m W) : 1 ≤ p ∧ p < m := by
  have := List.mem_range'_1.mp (List.mem_filter.mp h).1
  omega
theorem cutsA_pw (m : Nat) (W : List (List Int)) : (cutsA m W).Pairwise (· < ·) := (List.pairwise_lt_range' (s := 1) (step := 1)).filter _
theorem flat_cuts_len {m : Nat} : ∀ {W : List (List Int)}, Len m W → (W.map cutsL).flatten.length ≤ W.length * (m + 1)
  | [], _ => by simp
  | w :: W, h => by
    rw [List.map_cons, List.flatten_cons, List.length_append, List.length_cons, Nat.succ_mul]
    have h1 := flat_cuts_len (W := W) fun v hv => h v (List.mem_cons_of_mem _ hv)
    have h2 := cuts_len w
    have h3 := h w (List.mem_cons_self ..)
    omega
theorem natsD_ints (l : List Nat) : natsD l = (l.map fun (k : Nat) => (k : Int)).map PyData.int := by rw [List.map_map]; rfl
theorem sort_cuts {m : Nat} {W : List (List Int)} (hL : Len m W) (hW : W.length * (m + 1) ≤ 4000) : oSortSet (.list (natsD (W.map cutsL).flatten)) = some (.ow (natsD (cutsA m W))) := by
  rw [natsD_ints]
  show (intsOf (List.map PyData.int (List.map (fun (k : Nat) => (k : Int)) (List.map cutsL W).flatten))).bind _ = _
  rw [intsOf_map]
  simp only [Option.bind_some]
  rw [if_pos (by rw [List.length_map]; exact Nat.le_trans (flat_cuts_len hL) hW), natsD_ints (cutsA m W)]
  congr 3
  refine lt_ext sortU_lt (List.pairwise_map.mpr ((cutsA_pw m W).imp fun h => Int.ofNat_lt.mpr h)) fun k => ?_
  rw [sortU_mem, List.mem_map, List.mem_map]
  constructor
  · rintro ⟨p, hp, rfl⟩
    obtain ⟨l, hl, hp⟩ := List.mem_flatten.mp hp
    obtain ⟨w, hw, rfl⟩ := List.mem_map.mp hl
    exact ⟨p, (cutsA_mem hL).mpr ⟨w, hw, hp⟩, rfl⟩
  · rintro ⟨p, hp, rfl⟩
    obtain ⟨w, hw, hp⟩ := (cutsA_mem hL).mp hp
    exact ⟨p, List.mem_flatten.mpr ⟨_, List.mem_map_of_mem hw, hp⟩, rfl⟩
def segG (ord : List Nat) : Nat → List Nat → List (List Nat)
  | _, [] => []
  | b, c :: cs => seg ord b c :: segG ord c cs
def bnds (m : Nat) (W : List (List Int)) : List Nat := cutsA m W ++ [m]
def parts (m : Nat) (ord : List Nat) (W : List (List Int)) : List (List Nat) := segG ord 0 (bnds m W)
theorem bnds_le {m : Nat} {W : List (List Int)} {c : Nat} (h : c ∈ bnds m W) : c ≤ m := by
  rcases List.mem_append.mp h with h | h
  · exact Nat.le_of_lt (cutsA_lt h).2
  · rw [List.mem_singleton.mp h]; exact Nat.le_refl _
theorem bnds_pw (m : Nat) (W : List (List Int)) : (0 :: bnds m W).Pairwise (· ≤ ·) := by
  refine List.pairwise_cons.mpr ⟨fun _ _ => Nat.zero_le _, ?_⟩
  refine List.pairwise_append.mpr ⟨(cutsA_pw m W).imp Nat.le_of_lt, List.pairwise_singleton _ _, fun a ha b hb => ?_⟩
  rw [List.mem_singleton.mp hb]
  exact Nat.le_of_lt (cutsA_lt ha).2
theorem bnds_len (m : Nat) (W : List (List Int)) : (bnds m W).length ≤ m + 1 := by
  unfold bnds cutsA
  rw [List.length_append]
  have := List.length_filter_le (fun p => decide (isCut W p)) (List.range' 1 (m - 1))
  rw [List.length_range'] at this
  simp only [List.length_cons, List.length_nil]
  omega
abbrev litD (l : List Nat) : FK.D := .list (natsD l)
theorem parts_ok {m : Nat} {ord : List Nat} {W : List (List Int)} (hm : m ≤ 100) (ho : ord.length = m) (hL : Len m W) (hW : W.length ≤ 30) : wpF (e__law_parts.f [.fz (knD ord W)]) fun v _ => v = .ow ((parts m ord W).map litD) := by
  have hW' : W.length * (m + 1) ≤ 4000 := Nat.le_trans (Nat.mul_le_mul hW (Nat.succ_le_succ hm)) (by decide)
  show wpF (fnOf 5 m__law_parts _) _
  rw [wpF_fnOf]
  unfold m__law_parts
  simp_arith
  refine wp_compP (enc := tupI) (g := fun w => [litD (cutsL w)]) (fun w hw => ?_) ?_
  · have lw := hL w hw
    have w0 : w ≠ [] := by intro e; rw [e] at lw; exact absurd lw (by simp)
    simp_arith
    refine ⟨rfl, (law_cuts_ok w0 (by omega)).mono ?_⟩
    rintro _ _ rfl
    simp_arith
  · rw [flat1]
    simp_arith
    refine ⟨rfl, (flat_ok litD (fun (k : Nat) => PyData.int (k : Int)) (fun _ => rfl) (W.map cutsL) 4000 (Nat.le_trans (flat_cuts_len hL) hW') (by decide) (by rw [List.map_map]; rfl)).mono ?_⟩
    rintro _ _ rfl
    have hb : (cutsA m W).length + 1 ≤ 16777216 := by
      have := bnds_len m W
      unfold bnds at this
      rw [List.length_append] at this
      simp only [List.length_cons, List.length_nil] at this
      omega
    simp_arith [sort_cuts hL hW', ho, hb]
    rw [show natsD (cutsA m W) ++ [PyData.int (m : Int)] = natsD (bnds m W) from (List.map_append (f := fun (k : Nat) => PyData.int (k : Int)) (l₁ := cutsA m W) (l₂ := [m])).symm]
    refine wp_forL (enc := fun (k : Nat) => PyData.int (k : Int)) (fun dn rs ρ => ∃ (o2 : List (List Nat)) (b : Nat), ∃ x3, ρ = [some (.fz (knD ord W)), some (.ow (o2.map litD)), some (.fz (.int (b : Int))), x3, none] ∧ o2 ++ segG ord b rs = parts m ord W ∧ o2.length + rs.length ≤ m + 1 ∧ (b :: rs).Pairwise (· ≤ ·) ∧ (∀ c ∈ rs, c ∈ bnds m W)) (fun dn c rs ρ h => ?_) (fun dn ρ h => ?_) _ [] _ ⟨[], 0, _, rfl, rfl, by simpa using bnds_len m W, bnds_pw m W, fun _ h => h⟩
    · obtain ⟨o2, b, x6, rfl, g1, g2, g3, g4⟩ := h
      have hc := bnds_le (g4 c (List.mem_cons_self ..))
      have hbc : b ≤ c := (List.pairwise_cons.mp g3).1 c (List.mem_cons_self ..)
      have e := cut_seg (ord := ord) hbc (by omega)
      have l2 : o2.length < 16777216 := by rw [List.length_cons] at g2; omega
      unfold b1__law_parts
      simp_arith [e, l2]
      exact ⟨o2 ++ [seg ord b c], c, _, by rw [List.map_append]; rfl, by rw [← g1, List.append_assoc]; rfl, by rw [List.length_append]; simp only [List.length_cons, List.length_nil] at g2 ⊢; omega, (List.pairwise_cons.mp g3).2, fun x hx => g4 x (List.mem_cons_of_mem _ hx)⟩
    · obtain ⟨o2, b, x6, rfl, g1, g2, g3, g4⟩ := h
      simp_arith
      rw [← g1, show segG ord b [] = [] from rfl, List.append_nil]
theorem seg_flat {ord : List Nat} : ∀ {cs : List Nat} {b : Nat}, (b :: cs).Pairwise (· ≤ ·) → (segG ord b cs).flatten = seg ord b ((b :: cs).getLast (List.cons_ne_nil _ _))
  | [], b, _ => by
    show [] = (ord.drop b).take (b - b)
    rw [Nat.sub_self, List.take_zero]
  | c :: cs, b, h => by
    have hbc : b ≤ c := (List.pairwise_cons.mp h).1 c (List.mem_cons_self ..)
    have h2 := (List.pairwise_cons.mp h).2
    have hce : c ≤ (c :: cs).getLast (List.cons_ne_nil _ _) := by
      rcases List.mem_cons.mp (List.getLast_mem (List.cons_ne_nil c cs)) with e | e
      · exact Nat.le_of_eq e.symm
      · exact (List.pairwise_cons.mp h2).1 _ e
    show seg ord b c ++ (segG ord c cs).flatten = _
    rw [seg_flat h2, List.getLast_cons (List.cons_ne_nil c cs)]
    generalize (c :: cs).getLast (List.cons_ne_nil _ _) = e at hce
    unfold seg
    rw [show e - b = (c - b) + (e - c) by omega, List.take_add, List.drop_drop, show b + (c - b) = c by omega]
theorem parts_flat {m : Nat} {ord : List Nat} {W : List (List Int)} (ho : ord.length = m) : (parts m ord W).flatten = ord := by
  unfold parts
  rw [seg_flat (bnds_pw m W)]
  have : (0 :: bnds m W).getLast (List.cons_ne_nil _ _) = m := by
    rw [List.getLast_cons (by unfold bnds; simp)]
    unfold bnds
    simp
  rw [this]
  unfold seg
  rw [List.drop_zero, Nat.sub_zero, ← ho, List.take_length]
def normL (m : Nat) (ord : List Nat) (W : List (List Int)) : List Nat := ((parts m ord W).map sortN).flatten
/-- place by place in another order -/
inductive AllP : List (List Nat) → List (List Nat) → Prop
  | nil : AllP [] []
  | cons {p q : List Nat} {ps qs : List (List Nat)} : p.Perm q → AllP ps qs → AllP (p :: ps) (q :: qs)
theorem perm_flat {ps qs : List (List Nat)} (h : AllP ps qs) : ps.flatten.Perm qs.flatten := by
  induction h with
  | nil => exact List.Perm.refl _
  | cons h t ih => rw [List.flatten_cons, List.flatten_cons]; exact h.append ih
theorem sort_all : ∀ ps : List (List Nat), AllP (ps.map sortN) ps
  | [] => .nil
  | p :: ps => .cons (List.mergeSort_perm _ _) (sort_all ps)
theorem AllP.app {ps qs ps' qs' : List (List Nat)} (h : AllP ps qs) (h' : AllP ps' qs') : AllP (ps ++ ps') (qs ++ qs') := by
  induction h with
  | nil => exact h'
  | cons h t ih => exact .cons h ih
theorem normL_perm {m : Nat} {ord : List Nat} {W : List (List Int)} (ho : ord.length = m) : (normL m ord W).Perm ord := by
  have := perm_flat (sort_all (parts m ord W))
  rw [parts_flat ho] at this
  exact this
theorem part_len {m : Nat} {ord : List Nat} {W : List (List Int)} (ho : ord.length = m) {p : List Nat} (h : p ∈ parts m ord W) : p.length ≤ m := by
  have e := parts_flat (W := W) ho
  have := (List.sublist_flatten_of_mem h).length_le
  rw [e, ho] at this
  exact this
theorem law_normal_ok {m : Nat} {ord : List Nat} {W : List (List Int)} (hm : m ≤ 100) (ho : ord.length = m) (hL : Len m W) (hW : W.length ≤ 30) : wpF (e__law_normal.f [.fz (knD ord W)]) fun v _ => v = .fz (knD (normL m ord W) W) := by
  show wpF (fnOf 2 m__law_normal _) _
  rw [wpF_fnOf]
  unfold m__law_normal
  simp_arith
  refine ⟨rfl, (parts_ok hm ho hL hW).mono ?_⟩
  rintro _ _ rfl
  simp_arith
  refine wp_compP (enc := litD) (g := fun p => [litD (sortN p)]) (fun p hp => ?_) ?_
  · simp_arith [sorted_LN]
  · rw [flat1]
    simp_arith
    refine ⟨rfl, (flat_ok litD (fun (k : Nat) => PyData.int (k : Int)) (fun _ => rfl) ((parts m ord W).map sortN) 1000 (by
      have := (normL_perm (W := W) ho).length_eq
      unfold normL at this
      omega) (by decide) (by rw [List.map_map]; rfl)).mono ?_⟩
    rintro _ _ rfl
    simp_arith
    rfl
end K35

/-! K35q: stirred, normal_of. -/
namespace K35
open PySem FK FW
theorem stirred_ok {b : Bag} (hb : b.cells.length ≤ 1000) {m : Nat} {ord : List Nat} {W : List (List Int)} (hm : m ≤ 100) (ho : ord.length = m) (hL : Len m W) (hW : W.length ≤ 30) : wpF (e__law_stirred.f [.ow b.d, .fz (knD ord W)]) fun v o => ∃ ps, ∃ b' : Bag, v = .fz (knD ps.flatten W) ∧ AllP ps (parts m ord W) ∧ o = some b'.d ∧ b'.cells.length ≤ 1000 := by
  show wpF (fnOf 3 m__law_stirred _) _
  rw [wpF_fnOf]
  unfold m__law_stirred
  simp_arith
  refine ⟨rfl, (parts_ok hm ho hL hW).mono ?_⟩
  rintro _ _ rfl
  simp_arith
  refine (wp_compL (enc := litD) (I := fun done rest out ρ => done ++ rest = parts m ord W ∧ ∃ ps, ∃ b : Bag, AllP ps done ∧ out = ps.map litD ∧ b.cells.length ≤ 1000 ∧ ρ = [some (.ow b.d), some (.fz (knD ord W)), none]) (Q := fun out ρ => ∃ ps, ∃ b : Bag, AllP ps (parts m ord W) ∧ out = ps.map litD ∧ b.cells.length ≤ 1000 ∧ ρ = [some (.ow b.d), some (.fz (knD ord W)), none]) (fun done p rest out ρ h => ?_) (fun done out ρ h => ?_) (parts m ord W) [] [] _ ⟨rfl, [], b, .nil, rfl, hb, rfl⟩).mono ?_
  · obtain ⟨h1, ps, b, h2, rfl, hb, rfl⟩ := h
    have hp : p.length ≤ m := part_len (W := W) ho (by rw [← h1]; simp)
    simp_arith
    refine ⟨rfl, (mixedP hb (fun (k : Nat) => PyData.int (k : Int)) (l := p) (by omega) rfl).mono ?_⟩
    rintro _ _ ⟨q, b', rfl, hq, rfl, hb'⟩
    simp_arith
    exact ⟨by rw [List.append_assoc]; exact h1, ps ++ [q], b', h2.app (.cons hq .nil), by rw [List.map_append]; rfl, hb', rfl⟩
  · obtain ⟨h1, ps, b, h2, rfl, hb, rfl⟩ := h
    rw [List.append_nil] at h1
    rw [h1] at h2
    exact ⟨ps, b, h2, rfl, hb, rfl⟩
  · rintro r _ ⟨ps, b, h2, e, hb, rfl⟩
    rw [List.nil_append] at e
    subst e
    simp_arith
    refine ⟨rfl, (flat_ok litD (fun (k : Nat) => PyData.int (k : Int)) (fun _ => rfl) ps 1000 (by
      have := (perm_flat h2).length_eq
      rw [parts_flat ho] at this
      omega) (by decide) rfl).mono ?_⟩
    rintro _ _ rfl
    simp_arith
    exact ⟨ps, b, rfl, h2, rfl, hb⟩
end K35

/-! K35r: normal_of. -/
namespace K35
open PySem FK FW
def bdP (m : Nat) (W : List (List Int)) (p : Nat) : Bool := decide (p = m) || decide (isCut W p)
def rest (m : Nat) (W : List (List Int)) (j : Nat) : List Nat := (List.range' j (1 + m - j)).filter (bdP m W)
theorem rest_end (m : Nat) (W : List (List Int)) : rest m W (1 + m) = [] := by unfold rest; rw [Nat.sub_self]; rfl
theorem rest_step {m : Nat} {W : List (List Int)} {j : Nat} (h : j < 1 + m) : rest m W j = if bdP m W j = true then j :: rest m W (j + 1) else rest m W (j + 1) := by
  unfold rest
  rw [show 1 + m - j = (1 + m - (j + 1)) + 1 by omega, List.range'_succ, List.filter_cons]
theorem rest_one {m : Nat} {W : List (List Int)} (h : 0 < m) : rest m W 1 = bnds m W := by
  unfold rest bnds cutsA
  rw [show 1 + m - 1 = (m - 1) + 1 by omega, List.range'_1_concat, List.filter_append]
  congr 1
  · refine List.filter_congr fun p hp => ?_
    have := List.mem_range'_1.mp hp
    unfold bdP
    rw [decide_eq_false (show ¬p = m by omega), Bool.false_or]
  · rw [show 1 + (m - 1) = m by omega]
    unfold bdP
    simp
def normG (ord : List Nat) (b : Nat) (cs : List Nat) : List Nat := ((segG ord b cs).map sortN).flatten
theorem norm_one {m : Nat} {ord : List Nat} {W : List (List Int)} (ho : ord.length = m) : normG ord 0 (rest m W 1) = normL m ord W := by
  cases m with
  | zero =>
    have e := (normL_perm (W := W) ho)
    rw [List.length_eq_zero_iff.mp ho] at e ⊢
    rw [List.perm_nil.mp e]
    rfl
  | succ m =>
    rw [rest_one (Nat.succ_pos m)]
    rfl
theorem normal_ok {m : Nat} {ord : List Nat} {W : List (List Int)} (hm : m ≤ 100) (ho : ord.length = m) (hL : Len m W) (hW : W.length ≤ 30) {r : FR} (hr0 : r = e_normal_of.f [.fz (knD ord W)]) : wpF r fun v _ => v = .fz (knD (normL m ord W) W) := by
  rw [hr0.trans (congrFun (show e_normal_of.f = fnOf 7 m_normal_of from rfl) _), wpF_fnOf]
  unfold m_normal_of
  have hr : rngOf [.int 1, .int ((ord.length : Int) + 1)] = some ((List.range' 1 m).map fun (k : Nat) => PyData.int (k : Int)) := by
    rw [ho, show (m : Int) + 1 = ((m + 1 : Nat) : Int) by omega]
    exact rng_from1 (by omega)
  simp_arith [hr]
  refine wp_up2 (a := 1) (n := m) (fun j ρ => ∃ (o : List Nat) (b : Nat), ∃ x5, ρ = [some (.fz (knD ord W)), some (.fz (.tuple (natsD ord))), some (.fz (rowsD W)), some (.ow (natsD o)), some (.fz (.int (b : Int))), x5, none] ∧ b ≤ j ∧ o ++ normG ord b (rest m W j) = normL m ord W) (fun j ρ h1 h2 h => ?_) (fun ρ h => ?_) ?_
  · obtain ⟨o, b, x5, rfl, hb, he⟩ := h
    have hlen : o.length ≤ m := by
      have := congrArg List.length he
      rw [(normL_perm (W := W) ho).length_eq, ho, List.length_append] at this
      omega
    have hj : ((j : Int) = (ord.length : Int)) ↔ j = m := by omega
    unfold b1_normal_of
    have e := cut_seg (ord := ord) hb (by omega)
    have sl : (seg ord b j).length ≤ m := by
      unfold seg
      rw [List.length_take, List.length_drop]; omega
    have hx : extD (.list (natsD (sortN (seg ord b j)))) (natsD o) = some ((), natsD (o ++ sortN (seg ord b j))) := by
      rw [ext_list, if_pos (by
        rw [List.length_map, List.length_map, show (sortN (seg ord b j)).length = (seg ord b j).length from (List.mergeSort_perm (seg ord b j) _).length_eq]; omega), show natsD (o ++ sortN (seg ord b j)) = _ from List.map_append ..]
    have yes : bdP m W j = true → (o ++ sortN (seg ord b j)) ++ normG ord j (rest m W (j + 1)) = normL m ord W := fun h => by
      rw [← he, rest_step h2, if_pos h, List.append_assoc]
      rfl
    have no : ¬bdP m W j = true → o ++ normG ord b (rest m W (j + 1)) = normL m ord W := fun h => by
      rw [← he, rest_step h2, if_neg h]
    simp_arith
    by_cases c1 : (j : Int) = (ord.length : Int)
    · rw [if_pos c1]
      simp_arith [e, sorted_TN, hx]
      exact ⟨_, j, _, rfl, by omega, yes (by unfold bdP; rw [decide_eq_true (hj.mp c1)]; rfl)⟩
    · rw [if_neg c1]
      refine wp_compP (enc := tupI) (g := fun w => if j ∈ cutsL w then [tupI w] else []) (fun w hw => ?_) ?_
      · have lw := hL w hw
        have w0 : w ≠ [] := by intro e; rw [e] at lw; exact absurd lw (by simp)
        simp_arith
        refine ⟨rfl, (cuts_ok w0 (by omega)).mono ?_⟩
        rintro _ _ rfl
        simp_arith [nats_good.inL (by decide) (cutsL w) j]
        by_cases c2 : j ∈ cutsL w
        · rw [if_pos c2, if_pos c2]
        · rw [if_neg c2, if_neg c2]
      · rw [flat_sel]
        simp_arith [ne_nilN (e := tupI) goodI.tup.pl]
        have hc : (!(W.filter fun w => decide (j ∈ cutsL w)).isEmpty) = bdP m W j := by
          unfold bdP
          rw [decide_eq_false (fun h => c1 (hj.mpr h)), Bool.false_or, Bool.eq_iff_iff, decide_eq_true_iff]
          unfold isCut
          rw [Bool.not_eq_true', List.isEmpty_eq_false_iff_exists_mem]
          constructor
          · rintro ⟨w, hw⟩
            have := List.mem_filter.mp hw
            exact ⟨w, this.1, of_decide_eq_true this.2⟩
          · rintro ⟨w, hw, hj⟩
            exact ⟨w, List.mem_filter.mpr ⟨hw, decide_eq_true hj⟩⟩
        rw [hc]
        by_cases c2 : bdP m W j = true
        · rw [if_pos c2]
          simp_arith [e, sorted_TN, hx]
          exact ⟨_, j, _, rfl, by omega, yes c2⟩
        · rw [if_neg c2]
          exact ⟨o, b, _, rfl, by omega, no c2⟩
  · obtain ⟨o, b, x5, rfl, hb, he⟩ := h
    rw [rest_end] at he
    simp_arith
    rw [← he, show normG ord b [] = [] from rfl, List.append_nil]
  · trace_state
    exact ⟨[], 0, none, rfl, by omega, by rw [← norm_one ho]; rfl⟩
end K35

/-! K35s: orders told otherwise: the same blocks, the same normal order. -/
namespace K35
open PySem FK FW
theorem sortN_eq {a b : List Nat} (h : a.Perm b) : sortN a = sortN b := by
  unfold sortN
  have tr : ∀ x y z : Nat, decide (x ≤ y) = true → decide (y ≤ z) = true → decide (x ≤ z) = true := fun x y z h1 h2 => decide_eq_true (Nat.le_trans (of_decide_eq_true h1) (of_decide_eq_true h2))
  have to : ∀ x y : Nat, (decide (x ≤ y) || decide (y ≤ x)) = true := fun x y => by
    rcases Nat.le_total x y with h | h
    · rw [decide_eq_true h]; rfl
    · rw [decide_eq_true h, Bool.or_true]
  have s1 := List.pairwise_mergeSort tr to a
  have s2 := List.pairwise_mergeSort tr to b
  refine List.Perm.eq_of_pairwise (le := fun x y => decide (x ≤ y) = true) (fun x y _ _ h1 h2 => Nat.le_antisymm (of_decide_eq_true h1) (of_decide_eq_true h2)) s1 s2 ?_
  exact (List.mergeSort_perm a _).trans (h.trans (List.mergeSort_perm b _).symm)
theorem seg_add {ord : List Nat} {a b c : Nat} (h1 : a ≤ b) (h2 : b ≤ c) : seg ord a b ++ seg ord b c = seg ord a c := by
  unfold seg
  rw [show c - a = (b - a) + (c - b) by omega, List.take_add, List.drop_drop, show a + (b - a) = b by omega]
theorem seg_len {ord : List Nat} {a b : Nat} (h1 : a ≤ b) (h2 : b ≤ ord.length) : (seg ord a b).length = b - a := by
  unfold seg
  rw [List.length_take, List.length_drop]; omega
/-- told otherwise: the same things ahead of each bound -/
def PreP (m : Nat) (W : List (List Int)) (ord' ord : List Nat) : Prop := ∀ c ∈ bnds m W, (ord'.take c).Perm (ord.take c)
theorem pre_gen {ord : List Nat} : ∀ {cs : List Nat} {b : Nat} {ps : List (List Nat)}, (b :: cs).Pairwise (· ≤ ·) → (∀ c ∈ cs, c ≤ ord.length) → AllP ps (segG ord b cs) → ∀ c ∈ cs, (ps.flatten.take (c - b)).Perm (seg ord b c)
  | [], _, _, _, _, _, c, hc => nomatch hc
  | c0 :: cs, b, _, hp, hl, .cons (p := p) (ps := ps) h t, c, hc => by
    have hb : b ≤ c0 := (List.pairwise_cons.mp hp).1 c0 (List.mem_cons_self ..)
    have h2 := (List.pairwise_cons.mp hp).2
    have l0 := hl c0 (List.mem_cons_self ..)
    have lp : p.length = c0 - b := by rw [h.length_eq, seg_len hb l0]
    rw [List.flatten_cons]
    rcases List.mem_cons.mp hc with rfl | hc
    · rw [← lp, List.take_left]
      exact h
    · have hcc := (List.pairwise_cons.mp h2).1 c hc
      rw [show c - b = p.length + (c - c0) by omega, List.take_length_add_append, ← seg_add hb hcc]
      exact h.append (pre_gen h2 (fun x hx => hl x (List.mem_cons_of_mem _ hx)) t c hc)
theorem pre_of {m : Nat} {ord : List Nat} {W : List (List Int)} {ps : List (List Nat)} (ho : ord.length = m) (h : AllP ps (parts m ord W)) : PreP m W ps.flatten ord := fun c hc => by
  have := pre_gen (bnds_pw m W) (fun c hc => by have := bnds_le hc; omega) h c hc
  rw [Nat.sub_zero] at this
  unfold seg at this
  rw [Nat.sub_zero, List.drop_zero] at this
  exact this
theorem pre_normal {m : Nat} {ord : List Nat} {W : List (List Int)} (ho : ord.length = m) : PreP m W (normL m ord W) ord := pre_of ho (sort_all _)
theorem take_seg (ord : List Nat) {a b : Nat} (h : a ≤ b) : ord.take b = ord.take a ++ seg ord a b := by
  unfold seg
  rw [show b = a + (b - a) by omega, List.take_add, show a + (b - a) - a = b - a by omega]
theorem pre0 {m : Nat} {W : List (List Int)} {ord' ord : List Nat} (h : PreP m W ord' ord) : ∀ c ∈ 0 :: bnds m W, (ord'.take c).Perm (ord.take c) := fun c hc => by
  rcases List.mem_cons.mp hc with rfl | hc
  · exact List.Perm.refl _
  · exact h c hc
theorem pre_seg {m : Nat} {W : List (List Int)} {ord' ord : List Nat} (h : PreP m W ord' ord) {a b : Nat} (ha : a ∈ 0 :: bnds m W) (hb : b ∈ 0 :: bnds m W) (hab : a ≤ b) : (seg ord' a b).Perm (seg ord a b) := by
  have h1 := pre0 h a ha
  have h2 := pre0 h b hb
  rw [take_seg ord' hab, take_seg ord hab] at h2
  exact (List.perm_append_left_iff _).mp (h2.trans (h1.symm.append_right _))
theorem segs_same {m : Nat} {W : List (List Int)} {ord' ord : List Nat} (h : PreP m W ord' ord) : ∀ {cs : List Nat} {b : Nat}, b ∈ 0 :: bnds m W → (∀ c ∈ cs, c ∈ bnds m W) → (b :: cs).Pairwise (· ≤ ·) → (segG ord' b cs).map sortN = (segG ord b cs).map sortN
  | [], _, _, _, _ => rfl
  | c :: cs, b, hb, hc, hp => by
    have hc0 := List.mem_cons_of_mem 0 (hc c (List.mem_cons_self ..))
    show sortN (seg ord' b c) :: (segG ord' c cs).map sortN = sortN (seg ord b c) :: (segG ord c cs).map sortN
    rw [sortN_eq (pre_seg h hb hc0 ((List.pairwise_cons.mp hp).1 c (List.mem_cons_self ..))), segs_same h hc0 (fun x hx => hc x (List.mem_cons_of_mem _ hx)) (List.pairwise_cons.mp hp).2]
theorem norm_same {m : Nat} {W : List (List Int)} {ord' ord : List Nat} (h : PreP m W ord' ord) : normL m ord' W = normL m ord W := by
  unfold normL parts
  rw [segs_same h (List.mem_cons_self ..) (fun _ h => h) (bnds_pw m W)]
theorem blk_same {m : Nat} {W : List (List Int)} {ord' ord : List Nat} {w : List Int} (h : PreP m W ord' ord) : ∀ {cs : List Nat} {b : Nat}, b ∈ 0 :: bnds m W → (∀ c ∈ cs, c ∈ bnds m W) → (b :: cs).Pairwise (· ≤ ·) → blkG ord' w b cs = blkG ord w b cs
  | [], _, _, _, _ => rfl
  | c :: cs, b, hb, hc, hp => by
    have hc0 := List.mem_cons_of_mem 0 (hc c (List.mem_cons_self ..))
    show (sortN (seg ord' b c), _) :: blkG ord' w c cs = (sortN (seg ord b c), _) :: blkG ord w c cs
    rw [sortN_eq (pre_seg h hb hc0 ((List.pairwise_cons.mp hp).1 c (List.mem_cons_self ..))), blk_same h hc0 (fun x hx => hc x (List.mem_cons_of_mem _ hx)) (List.pairwise_cons.mp hp).2]
theorem blocks_same {m : Nat} {W : List (List Int)} (hL : Len m W) {ord' ord : List Nat} (h : PreP m W ord' ord) : blkL ord' W = blkL ord W := by
  unfold blkL
  refine List.map_congr_left fun w hw => ?_
  exact blk_same h (List.mem_cons_self ..) (fun c hc => List.mem_append_left _ ((cutsA_mem hL).mpr ⟨w, hw, hc⟩)) (cuts_pw w)
end K35

/-! K35t: told otherwise, the same states fit. -/
namespace K35
open PySem FK FW
theorem rise {m : Nat} {s : Int} {w : List Int} {g : Nat → Int} (h : Wd m s w) (g1 : ∀ p, p < m → g (p + 1) ≤ g p + 1) (gm : g m = w.getD m 0) (hc : ∀ c, c ∈ cutsL w → w.getD c 0 ≤ g c) : ∀ (k p : Nat), p + 1 + k = m → w.getD p 0 < w.getD (p + 1) 0 → g (p + 1) < w.getD (p + 1) 0 → False
  | 0, p, hk, hr, hf => by
    have : p + 1 = m := by omega
    rw [this, gm] at hf
    omega
  | k + 1, p, hk, hr, hf => by
    have hl := h.len
    have hs := h.up (p + 1) (by omega)
    have hb := h.by1 (p + 1) (by omega)
    by_cases e : w.getD (p + 1 + 1) 0 = w.getD (p + 1) 0
    · have := hc (p + 1) (cuts_mem.mpr ⟨by omega, by omega, ⟨by rw [Nat.add_sub_cancel]; exact hr, e⟩⟩)
      omega
    · have := g1 (p + 1) (by omega)
      exact rise h g1 gm hc k (p + 1) (by omega) (by omega) (by omega)
theorem fill {m : Nat} {s : Int} {w : List Int} {g : Nat → Int} (h : Wd m s w) (g0 : ∀ p, p < m → g p ≤ g (p + 1)) (g00 : 0 ≤ g 0) (g1 : ∀ p, p < m → g (p + 1) ≤ g p + 1) (gm : g m = w.getD m 0) (hc : ∀ c, c ∈ cutsL w → w.getD c 0 ≤ g c) : ∀ p, p ≤ m → w.getD p 0 ≤ g p
  | 0, _ => by
    have := h.lep (Nat.zero_le m)
    omega
  | p + 1, hp => by
    have ih := fill h g0 g00 g1 gm hc p (by omega)
    have := g0 p (by omega)
    rcases Int.lt_or_le (g (p + 1)) (w.getD (p + 1) 0) with hf | hf
    · exact (rise h g1 gm hc (m - (p + 1)) p (by omega) (by omega) hf).elim
    · exact hf
theorem pcnt_perm {st : List Int} {f : Nat} {a b : List Nat} (h : a.Perm b) : pcnt st f a = pcnt st f b := h.countP_eq _
theorem pcnt_step {st : List Int} {f : Nat} {ord : List Nat} {p : Nat} (h : p < ord.length) : (pcnt st f (ord.take p) : Int) ≤ pcnt st f (ord.take (p + 1)) ∧ (pcnt st f (ord.take (p + 1)) : Int) ≤ pcnt st f (ord.take p) + 1 := by
  unfold pcnt
  rw [List.take_succ_eq_append_getElem h, List.countP_append, List.countP_singleton]
  split <;> omega
theorem pcnt_all {st : List Int} {f m : Nat} (hs : st.length = m) {ord : List Nat} (hp : ord.Perm (List.range m)) : pcnt st f ord = st.countP fun x => decide (x ≤ (f : Int)) := by
  rw [pcnt_perm hp, ← within_len, hs]
  unfold pcnt withinL
  rw [List.countP_eq_length_filter]
theorem okF_same {m : Nat} {s : Int} {w : List Int} {W : List (List Int)} {st : List Int} {f : Nat} {ord' ord : List Nat} (hL : Len m W) (hw : w ∈ W) (h : Wd m s w) (hs : st.length = m) (hp : ord.Perm (List.range m)) (hp' : ord'.Perm (List.range m)) (hP : PreP m W ord' ord)
    (hl : ((st.countP fun x => decide (x ≤ (f : Int)) : Nat) : Int) = w.getD m 0) (ho : okF st ord f w = true) : okF st ord' f w = true := by
  have lo : ord.length = m := by rw [hp.length_eq, List.length_range]
  have lo' : ord'.length = m := by rw [hp'.length_eq, List.length_range]
  have key := fill (g := fun p => (pcnt st f (ord'.take p) : Int)) h (fun p q => (pcnt_step (by omega)).1) (Int.natCast_nonneg _) (fun p q => (pcnt_step (by omega)).2) (by
    show (pcnt st f (ord'.take m) : Int) = _
    rw [← lo', List.take_length, pcnt_all hs hp', hl, lo']) (fun c hc => by
    have hb : c ∈ bnds m W := List.mem_append_left _ ((cutsA_mem hL).mpr ⟨w, hw, hc⟩)
    have h2 := cuts_mem.mp hc
    have lw := hL w hw
    show _ ≤ (pcnt st f (ord'.take c) : Int)
    rw [pcnt_perm (hP c hb)]
    have := of_decide_eq_true (List.all_eq_true.mp ho (c - 1) (List.mem_range.mpr (by omega)))
    rw [show c - 1 + 1 = c by omega] at this
    exact this)
  refine List.all_eq_true.mpr fun c hc => decide_eq_true (key (c + 1) ?_)
  have := List.mem_range.mp hc
  omega
theorem PreP.symm {m : Nat} {W : List (List Int)} {a b : List Nat} (h : PreP m W a b) : PreP m W b a := fun c hc => (h c hc).symm
theorem fits_imp {m : Nat} {rs ss : List Int} {ord ord' : List Nat} {W : List (List Int)} {st : List Int} (hL : Len m W) (hT : Tf m ss W) (hr : rs.length = ss.length) (hs : st.length = m) (hp : ord.Perm (List.range m)) (hp' : ord'.Perm (List.range m)) (hP : PreP m W ord' ord) (hf : fitsB rs ord W st = true) : fitsB rs ord' W st = true := by
  unfold fitsB at hf ⊢
  rw [Bool.and_eq_true] at hf ⊢
  refine ⟨hf.1, List.all_eq_true.mpr fun q hq => ?_⟩
  have h2 := List.all_eq_true.mp hf.2 q hq
  obtain ⟨w, f⟩ := q
  have hi : W[f]? = some w := List.mk_mem_zipIdx_iff_getElem?.mp hq
  have hw := List.mem_of_getElem? hi
  have e := of_decide_eq_true hf.1
  rw [tf_lasts hT] at e
  have hfl : f < W.length := (List.getElem?_eq_some_iff.mp hi).1
  rw [tf_len hT] at hfl
  have es : ss[f]? = some (ss[f]'hfl) := List.getElem?_eq_getElem hfl
  have hd := tf_wd hT f _ w es hi
  refine okF_same hL hw hd hs hp hp' hP ?_ h2
  have : (sizesL rs st)[f]? = some (((st.countP fun x => decide (x ≤ (f : Int)) : Nat) : Int)) := by
    unfold sizesL
    rw [List.getElem?_map, List.getElem?_range (by omega)]
    rfl
  rw [e, es] at this
  have h3 := Option.some.inj this
  rw [← h3]
  exact hd.top.symm
theorem fitL_same {m : Nat} {rs ss : List Int} {ord ord' : List Nat} {W : List (List Int)} (hL : Len m W) (hT : Tf m ss W) (hr : rs.length = ss.length) (hp : ord.Perm (List.range m)) (hp' : ord'.Perm (List.range m)) (hP : PreP m W ord' ord) : fitL m rs ord' W = fitL m rs ord W := by
  unfold fitL
  refine List.filter_congr fun st hst => ?_
  have hs := allS_len hst
  exact decide_eq_decide.mpr ⟨fits_imp hL hT hr hs hp' hp hP.symm, fits_imp hL hT hr hs hp hp' hP⟩
end K35

/-! K35u: the law is true. -/
namespace K35
open PySem FK FW
theorem rp_nats {l : List Nat} {n : Nat} (h : ∀ x ∈ l, x ≤ 1000) (hn : l.length ≤ n) : RP (n * 41) 1 (.tuple (natsD l)) := by
  refine rp_tuple (w := 40) (k := 0) (fun d hd => ?_) (by rw [List.length_map]; exact hn)
  obtain ⟨x, hx, rfl⟩ := List.mem_map.mp hd
  have := h x hx
  exact rp_int (by omega) (by omega)
theorem rp_two {a b : FK.D} {w k : Nat} (ha : RP w k a) (hb : RP w k b) : RP (2 * (w + 1)) (k + 1) (.tuple [a, b]) := by
  refine rp_tuple (fun d hd => ?_) (by simp)
  rcases List.mem_cons.mp hd with rfl | hd
  · exact ha
  · rw [List.mem_singleton.mp hd]; exact hb
theorem rp_three {a : FK.D} {w k : Nat} (ha : RP w k a) : RP (3 * (w + 1)) (k + 1) (.list [a, a, a]) := by
  refine rp_list (fun d hd => ?_) (by simp)
  simp at hd
  rw [hd]; exact ha
theorem rp_kn {m : Nat} {ord : List Nat} {W : List (List Int)} (hm : m ≤ 16) (ho : ord.length = m) (hlt : ∀ t ∈ ord, t < m) (hL : Len m W) (hS : ∀ w ∈ W, Small w) (hW : W.length ≤ 4) : RP 20000 4 (knD ord W) := by
  have h1 : RP 3000 3 (.tuple (natsD ord)) := (rp_nats (n := 16) (fun x hx => by have := hlt x hx; omega) (by omega)).mono (by omega) (by omega)
  have h2 : RP 3000 3 (rowsD W) := (rp_rows (n := 17) (f := 4) (fun r hr => ⟨hS r hr, by rw [hL r hr]; omega⟩) hW).mono (by omega) (by omega)
  exact (rp_two h1 h2).mono (by omega) (by omega)
theorem blk_all {ord : List Nat} {w : List Int} : ∀ {cs : List Nat} {b : Nat} {p : List Nat × Int}, p ∈ blkG ord w b cs → ∃ a c, p = (sortN (seg ord a c), w.getD c 0)
  | [], _, _, h => nomatch h
  | c :: cs, b, p, h => by
    rcases List.mem_cons.mp h with rfl | h
    · exact ⟨b, c, rfl⟩
    · exact blk_all h
theorem blk_len {ord : List Nat} {w : List Int} : ∀ {cs : List Nat} {b : Nat}, (blkG ord w b cs).length = cs.length
  | [], _ => rfl
  | c :: cs, b => by
    show (blkG ord w c cs).length + 1 = cs.length + 1
    rw [blk_len]
theorem small_get {w : List Int} (h : Small w) (c : Nat) : -99999999999 ≤ w.getD c 0 ∧ w.getD c 0 ≤ 99999999999 := by
  rw [List.getD_eq_getElem?_getD]
  cases e : w[c]? with
  | none => exact ⟨by decide, by decide⟩
  | some x => exact h x (List.mem_of_getElem? e)
theorem rp_blocks {m : Nat} {ord : List Nat} {W : List (List Int)} (hm : m ≤ 16) (ho : ord.length = m) (hlt : ∀ t ∈ ord, t < m) (hL : Len m W) (hS : ∀ w ∈ W, Small w) (hW : W.length ≤ 4) : RP 100000 4 (.tuple ((blkL ord W).map bksD)) := by
  refine (rp_tuple (w := 17 * 1315) (k := 3) (n := 4) (fun d hd => ?_) (by rw [List.length_map]; unfold blkL; rw [List.length_map]; exact hW)).mono (by omega) (by omega)
  obtain ⟨l, hl, rfl⟩ := List.mem_map.mp hd
  obtain ⟨w, hw, rfl⟩ := List.mem_map.mp hl
  have lw := hL w hw
  refine rp_tuple (w := 1314) (k := 2) (fun d hd => ?_) (by rw [List.length_map, blk_len]; have := cuts_len w; omega)
  obtain ⟨p, hp, rfl⟩ := List.mem_map.mp hd
  obtain ⟨a, c, rfl⟩ := blk_all hp
  have pm : (sortN (seg ord a c)).Perm (seg ord a c) := List.mergeSort_perm _ _
  have sg : ∀ x ∈ seg ord a c, x ∈ ord := fun x hx => List.mem_of_mem_drop (List.mem_of_mem_take hx)
  have h1 : RP 656 1 (.tuple (natsD (sortN (seg ord a c)))) := (rp_nats (n := 16) (fun x hx => by have := hlt x (sg x (pm.mem_iff.mp hx)); omega) (by
    rw [pm.length_eq]
    unfold seg
    rw [List.length_take, List.length_drop]; omega)).mono (by omega) (by omega)
  have h2 := small_get (hS w hw) c
  exact rp_two h1 ((rp_int h2.1 h2.2).mono (by omega) (by omega))
theorem kn_facts {m : Nat} {rs : List Int} {ord : List Nat} {ss : List Int} {W : List (List Int)} (hm : m ≤ 16) (hr : rs.length ≤ 4) (h : Kn m rs ord ss W) :
    ord.length = m ∧ (∀ t ∈ ord, t < m) ∧ Len m W ∧ (∀ w ∈ W, Small w) ∧ W.length ≤ 4 ∧ rs.length = ss.length := by
  have hl := h.leg.len
  have t := tight_tf.mpr h.tf
  refine ⟨by rw [h.perm.length_eq, List.length_range], fun x hx => List.mem_range.mp (h.perm.mem_iff.mp hx), fun w hw => (t.all w hw).1, fun w hw x hx => ?_, by rw [t.len]; omega, hl⟩
  have := t.top w hw x hx
  have := nn_mem (t.all w hw).2.2 hx
  omega
theorem turn_law {b : Bag} {S x2 x3 x4 x5 x6 x7 x8 : Option Val} (hb : b.cells.length ≤ 1000) :
    wp b1_law [S, some (.ow b.d), x2, x3, x4, x5, x6, x7, x8] fun f ρ => f = .nx ∧ ∃ b' : Bag, ∃ x3 x4 x5 x6 x7 x8, b'.cells.length ≤ 1000 ∧ ρ = [S, some (.ow b'.d), x2, x3, x4, x5, x6, x7, x8] := by
  unfold b1_law
  simp_arith
  refine ⟨rfl, (some_house_ok (menu := [5, 16, 9, 5]) (B := 16) hb (by decide) (by decide) (by decide) (by decide)).mono ?_⟩
  rintro _ _ ⟨m, rs, b1, rfl, hH, hm, hr, rfl, hb1⟩
  simp_arith
  refine ⟨rfl, (some_known_ok hb1 hH).mono ?_⟩
  rintro _ _ ⟨ord, ss, W, b2, rfl, hK, rfl, hb2⟩
  obtain ⟨ho, hlt, hL, hS, hW, hrs⟩ := kn_facts hm hr hK
  have rk := rp_kn hm ho hlt hL hS hW
  have rb := rp_blocks hm ho hlt hL hS hW
  simp_arith
  refine ⟨rfl, (law_blocks_ok (m := m) (by omega) ho hL (by omega)).mono ?_⟩
  rintro _ _ rfl
  simp_arith
  refine ⟨rfl, (law_normal_ok (m := m) (by omega) ho hL (by omega)).mono ?_⟩
  rintro _ _ rfl
  obtain ⟨R, hR⟩ : ∃ R, oRepr [knD ord W] = some (.fz (.str R)) := ⟨_, if_pos (rk.repr (by omega) (by omega))⟩
  simp_arith [hR]
  refine ⟨rfl, (stirred_ok hb2 (m := m) (by omega) ho hL (by omega)).mono ?_⟩
  rintro _ _ ⟨ps, b3, rfl, hps, rfl, hb3⟩
  have hpp := perm_flat hps
  rw [parts_flat ho] at hpp
  have hP := pre_of ho hps
  have ho' : ps.flatten.length = m := by rw [hpp.length_eq, ho]
  have hlt' : ∀ t ∈ ps.flatten, t < m := fun t ht => hlt t (hpp.mem_iff.mp ht)
  have hn := normL_perm (W := W) ho
  have hon : (normL m ord W).length = m := by rw [hn.length_eq, ho]
  have hltn : ∀ t ∈ normL m ord W, t < m := fun t ht => hlt t (hn.mem_iff.mp ht)
  have rn := rp_kn hm hon hltn hL hS hW
  generalize ps.flatten = ord2 at hpp hP ho' hlt'
  simp_arith
  refine ⟨rfl, (blocks_ok (m := m) (by omega) ho hL (by omega)).mono ?_⟩
  rintro _ _ rfl
  simp_arith
  refine ⟨rfl, (blocks_ok (m := m) (by omega) ho' hL (by omega)).mono ?_⟩
  rintro _ _ rfl
  simp_arith
  refine ⟨rfl, (blocks_ok (m := m) (by omega) ho hL (by omega)).mono ?_⟩
  rintro _ _ rfl
  rw [blocks_same hL hP]
  simp_arith
  have tri : ∀ d : FK.D, (List.replicate (Int.toNat 3) [d]).flatten = [d, d, d] := fun _ => rfl
  rw [tri]
  refine ⟨by decide, rfl, (alike_ok (rp_three rb) (by omega) (by omega)).mono ?_⟩
  rintro _ _ rfl
  simp_arith
  refine ⟨rfl, ?_⟩
  generalize hr0 : e_normal_of.f [Val.fz (knD (ord) W)] = r0
  have q0 := normal_ok (m := m) (by omega) ho hL (by omega) hr0.symm
  refine q0.mono ?_
  rintro _ _ rfl
  simp_arith
  refine ⟨rfl, ?_⟩
  generalize hr0 : e_normal_of.f [Val.fz (knD (ord2) W)] = r0
  have q0 := normal_ok (m := m) (by omega) ho' hL (by omega) hr0.symm
  refine q0.mono ?_
  rintro _ _ rfl
  simp_arith
  refine ⟨rfl, ?_⟩
  generalize hr0 : e_normal_of.f [Val.fz (knD (normL m ord W) W)] = r0
  have q0 := normal_ok (m := m) (by omega) hon hL (by omega) hr0.symm
  refine q0.mono ?_
  rintro _ _ rfl
  rw [norm_same hP, norm_same (pre_normal (W := W) ho)]
  simp_arith
  rw [tri]
  refine ⟨by decide, rfl, (alike_ok (rp_three rn) (by omega) (by omega)).mono ?_⟩
  rintro _ _ rfl
  simp_arith [hR, goodS.oNe (by decide) R R]
  rw [if_neg (by decide)]
  simp_arith [sum_T]
  have fin : ∃ b' : Bag, ∃ x3 x4 x5 x6 x7 x8, b'.cells.length ≤ 1000 ∧ ([S, some (.ow b3.d), x2, some (.fz (hou m rs)), some (.fz (knD ord W)), some (.fz (.tuple ((blkL ord W).map bksD))), some (.fz (knD (normL m ord W) W)), some (.fz (.str R)), some (.fz (knD ord2 W))] : Rho) = [S, some (.ow b'.d), x2, x3, x4, x5, x6, x7, x8] := ⟨b3, _, _, _, _, _, _, hb3, rfl⟩
  by_cases c1 : (m : Int) < 6
  · rw [if_pos c1]
    by_cases c2 : rs.sum < 7
    · rw [if_pos c2]
      by_cases c3 : (rs.length : Int) < 4
      · rw [if_pos c3]
        refine ⟨rfl, ?_⟩
        generalize hr0 : e_normal_of.f [Val.fz (knD ord2 W)] = r0
        have q0 := normal_ok (m := m) (by omega) ho' hL (by omega) hr0.symm
        refine q0.mono ?_
        rintro _ _ rfl
        rw [norm_same hP]
        simp_arith
        refine ⟨rfl, (states_that_fit_ok (m := m) (by omega) (by omega) hon hltn hL).mono ?_⟩
        rintro _ _ rfl
        rw [fitL_same hL hK.tf hrs hK.perm (hn.trans hK.perm) (pre_normal (W := W) ho)]
        simp_arith
        refine ⟨rfl, (states_that_fit_ok (m := m) (by omega) (by omega) ho hlt hL).mono ?_⟩
        rintro _ _ rfl
        have hne : oNe (.list ((fitL m rs ord W).map tupI)) (.list ((fitL m rs ord W).map tupI)) = some (.fz (.bool false)) := by
          have := goodI.tup.lst.oNe (by decide) (fitL m rs ord W) (fitL m rs ord W)
          rw [decide_eq_true rfl] at this
          exact this
        simp_arith [hne]
        exact fin
      · rw [if_neg c3]; exact fin
    · rw [if_neg c2]; exact fin
  · rw [if_neg c1]; exact fin
theorem law_true : ∀ ns : List Int, ns.length ≤ 63 → ∃ o, fnOf d_law.N.length m_law [.fz (.list (ns.map .int))] = .ok (.fz (.bool true)) o := by
  intro ns hns
  have key : wpF (fnOf 9 m_law [.fz (.list (ns.map .int))]) fun v _ => v = .fz (.bool true) := by
    rw [wpF_fnOf]
    unfold m_law
    simp_arith
    refine ⟨rfl, (bag_ok ns).mono ?_⟩
    rintro _ _ ⟨b, rfl, hb⟩
    simp_arith
    refine wp_up (n := 6) (fun j ρ => ∃ b : Bag, ∃ x2 x3 x4 x5 x6 x7 x8, b.cells.length ≤ 1000 ∧ ρ = [some (.fz (.list (ns.map .int))), some (.ow b.d), x2, x3, x4, x5, x6, x7, x8]) (fun j ρ hj h => ?_) (fun ρ h => ?_) ⟨b, _, _, _, _, _, _, _, by omega, rfl⟩
    · obtain ⟨b, x2, x3, x4, x5, x6, x7, x8, hb, rfl⟩ := h
      simp_arith
      refine (turn_law hb).mono ?_
      rintro _ _ ⟨rfl, b', x3, x4, x5, x6, x7, x8, hb', rfl⟩
      exact ⟨b', _, _, _, _, _, _, _, hb', rfl⟩
    · obtain ⟨b, x2, x3, x4, x5, x6, x7, x8, hb, rfl⟩ := h
      simp_arith
  obtain ⟨v, o, e, rfl⟩ := wpF_iff.mp key
  exact ⟨o, e⟩
end K35

open PySem PySem.W
open PySem.Calls PyProof.Rows
set_option maxHeartbeats 0 in
theorem PySem.Challenge.cw_floorkeepers_k35_blocks_and_normal_order_holds : PySem.Challenge.rw_floorkeepers_k35_blocks_and_normal_order.Holds := by
  w_on; o_law
  refine HandSHeadRun.head_any (r := K35.Rw) (q := view K35.Rw.prog [39]) (H := K35.hkk) (ob := K35.hob) (M := 2000) (loose := K35.loose) (d := HandSHeadRun.topDef K35.Rw.prog 39) (kwd := []) K35.hob_eq
    (by kernel_rfl) (fun s => by kernel_rfl) K35.hrun (by kernel_rfl) (by kernel_rfl) (by kernel_rfl) (by rfl) (by first | assumption | decide +kernel) (by decide +kernel) ⟨rfl, rfl, rfl, rfl, rfl, by decide +kernel⟩ ?hw ?hc
  case hw => w_witness2
  case hc =>
    exact FK.law_walk (l := PySem.Challenge.rw_floorkeepers_k35_blocks_and_normal_order) (n := 63) (N := 40) (x := "_law_script") (ds := K35.ds) (dl := K35.d_law) (ml := K35.m_law) rfl (by decide) (by kernel_rfl) ⟨rfl, by decide, by decide⟩ K35.reads (by kernel_rfl) rfl rfl K35.law_true

