import PyProof.Rows.All
import HandS.ForMost
import KE.DataEq
import HandS.Star
import HandS.TupAny
import HandS.TupMul
import HandS.TupLe
import HandS.Flt
import KE.GoesNew
import KE.GoesRev
import HandS.Zip
import HandS.Conv
import HandS.Style
import HandS.Defaults
import HandS.Ends
import HandS.HeadHook2
import HandS.HeadHook4
import PySem.Challenge.RW_floorkeepers_k11_least_tight_words
import HandS.Head0
import HandS.Head1
import HandS.Head2
import HandS.HeadEnd
set_option Elab.async false
set_option linter.all false
set_option maxRecDepth 100000
set_option maxHeartbeats 4000000
/-! FkA: what a small part of Python computes, by values (no heap): an env of slots, each slot a frozen datum or a list of one's own. -/
namespace FK
open PySem

abbrev D := PyData
/-- a slot's value: a datum that nobody changes any more; a list that only this slot holds -/
inductive Val where
  | fz (d : D)
  | ow (ds : List D)
def Val.data : Val → D
  | .fz d => d
  | .ow ds => .list ds
abbrev Rho := List (Option Val)
/-- how a run ends: with a value; with an exception of the class c; not told -/
inductive R (α : Type) where
  | ok (a : α) (ρ : Rho)
  | exc (c : Str) (ds : List D) (ρ : Rho)
  | bad
abbrev M (α : Type) := Rho → R α
def ret {α : Type} (a : α) : M α := fun ρ => .ok a ρ
def stop {α : Type} : M α := fun _ => .bad
def bnd {α β : Type} (m : M α) (k : α → M β) : M β := fun ρ =>
  match m ρ with
  | .ok a ρ' => k a ρ'
  | .exc c ds ρ' => .exc c ds ρ'
  | .bad => .bad
def lift {α : Type} : Option α → M α
  | some a => ret a
  | none => stop
theorem bnd_ok {α β : Type} {m : M α} {k : α → M β} {ρ ρ' : Rho} {a : α} (h : m ρ = .ok a ρ') : bnd m k ρ = k a ρ' := by
  unfold bnd; rw [h]
@[simp] theorem bnd_ret {α β : Type} (a : α) (k : α → M β) : bnd (ret a) k = k a := rfl

/-! ### expressions -/
def mC (d : D) : M Val := ret (.fz d)
/-- a name as a value: a list of one's own is frozen by it -/
def mV (i : Nat) : M Val := fun ρ =>
  match ρ[i]? with
  | some (some (.fz d)) => .ok (.fz d) ρ
  | some (some (.ow ds)) => .ok (.fz (.list ds)) (ρ.set i (some (.fz (.list ds))))
  | _ => .bad
/-- a name that is only looked at -/
def peek (i : Nat) : M D := fun ρ =>
  match ρ[i]? with
  | some (some v) => .ok v.data ρ
  | _ => .bad
/-- an operand -/
inductive Opd where
  | nm (i : Nat)
  | ex (m : M Val)
def Opd.run : Opd → M (Option D)
  | .nm i => bnd (peek i) fun _ => ret none
  | .ex m => bnd m fun v => ret (some v.data)
def Opd.get : Opd → Option D → M D
  | .nm i, _ => peek i
  | .ex _, some d => ret d
  | .ex _, none => stop
def mUn (op : D → Option Val) (a : Opd) : M Val := bnd a.run fun x => bnd (a.get x) fun d => lift (op d)
def mBin (op : D → D → Option Val) (a b : Opd) : M Val :=
  bnd a.run fun x => bnd b.run fun y => bnd (a.get x) fun d => bnd (b.get y) fun e => lift (op d e)
def runs : List Opd → M (List (Option D))
  | [] => ret []
  | a :: as => bnd a.run fun x => bnd (runs as) fun xs => ret (x :: xs)
def gets : List Opd → List (Option D) → M (List D)
  | [], _ => ret []
  | a :: as, x :: xs => bnd (a.get x) fun d => bnd (gets as xs) fun ds => ret (d :: ds)
  | _ :: _, [] => stop
/-- a built-in of several operands -/
def mFn (op : List D → Option Val) (as : List Opd) : M Val := bnd (runs as) fun xs => bnd (gets as xs) fun ds => lift (op ds)
/-- the items of a display, the second letter: whether it is starred -/
def seqOf : D → Option (List D)
  | .list ds => some ds
  | .tuple ds => some ds
  | _ => none
def mItems : List (Bool × M Val) → M (List D)
  | [] => ret []
  | (false, m) :: es => bnd m fun v => bnd (mItems es) fun ds => ret (v.data :: ds)
  | (true, m) :: es => bnd m fun v => bnd (lift (seqOf v.data)) fun xs => bnd (mItems es) fun ds => ret (xs ++ ds)
def szOk {α : Type} (ds : List α) : Bool := decide (ds.length ≤ 16777216)
def mTup (es : List (Bool × M Val)) : M Val := bnd (mItems es) fun ds => if szOk ds then ret (.fz (.tuple ds)) else stop
def mLst (es : List (Bool × M Val)) : M Val := bnd (mItems es) fun ds => if szOk ds then ret (.ow ds) else stop
/-- tests -/
def truth : D → Option Bool
  | .none => some false
  | .bool b => some b
  | .int i => some (i != 0)
  | .list xs => some (!xs.isEmpty)
  | .tuple xs => some (!xs.isEmpty)
  | _ => none
def mT (a : Opd) : M Bool := bnd a.run fun x => bnd (a.get x) fun d => lift (truth d)
def mNot (c : M Bool) : M Bool := bnd c fun b => ret (!b)
def mAnd (c e : M Bool) : M Bool := bnd c fun b => if b then e else ret false
def mOr (c e : M Bool) : M Bool := bnd c fun b => if b then ret true else e
def asBool : D → Option Bool
  | .bool b => some b
  | _ => none
def mBl (c : M Val) : M Bool := bnd c fun v => lift (asBool v.data)
/-- and, or as values, the first one a bool -/
def mAndV (a b : M Val) : M Val := bnd (mBl a) fun x => if x then b else ret (.fz (.bool false))
def mOrV (a b : M Val) : M Val := bnd (mBl a) fun x => if x then ret (.fz (.bool true)) else b
def mNotV (c : M Bool) : M Val := bnd c fun b => ret (.fz (.bool (!b)))
def mIf (c : M Bool) (a b : M Val) : M Val := bnd c fun t => if t then a else b

/-! ### targets -/
inductive Tgt where
  | nm (i : Nat)
  | tup (ts : List Tgt)
mutual
def Tgt.slots : Tgt → List Nat
  | .nm i => [i]
  | .tup ts => Tgt.slotsAll ts
def Tgt.slotsAll : List Tgt → List Nat
  | [] => []
  | t :: ts => t.slots ++ Tgt.slotsAll ts
end
def setS (i : Nat) (v : Val) : M Unit := fun ρ => if i < ρ.length then .ok () (ρ.set i (some v)) else .bad
mutual
def Tgt.put : Tgt → D → M Unit
  | .nm i, d => setS i (.fz d)
  | .tup ts, .tuple ds => if ds.length = ts.length then Tgt.putAll ts ds else stop
  | .tup _, _ => stop
def Tgt.putAll : List Tgt → List D → M Unit
  | [], [] => ret ()
  | t :: ts, d :: ds => bnd (t.put d) fun _ => Tgt.putAll ts ds
  | _, _ => stop
end

/-! ### comprehensions -/
def wipeR (ρ : Rho) : List Nat → Rho
  | [] => ρ
  | v :: vs => (wipeR ρ vs).set v none
/-- the slots at vs as they stood in ρ, all others as in ρ' -/
def restore (ρ ρ' : Rho) : List Nat → Rho
  | [] => ρ'
  | v :: vs => (restore ρ ρ' vs).set v (ρ[v]?.getD none)
def isOw : Option (Option Val) → Bool
  | some (some (.ow _)) => true
  | _ => false
def noOw (ρ : Rho) (vs : List Nat) : Bool := vs.all fun v => !isOw ρ[v]?
def wipeM (vs : List Nat) : M Unit := fun ρ => .ok () (wipeR ρ vs)
def mYes : M Bool := ret true
def compL (t : Tgt) (c : M Bool) (e : M Val) (vs : List Nat) : List D → M (List D)
  | [] => ret []
  | d :: ds => bnd (t.put d) fun _ => bnd c fun b => bnd (if b then bnd e fun v => ret [v.data] else ret []) fun o => bnd (wipeM vs) fun _ => bnd (compL t c e vs ds) fun r => ret (o ++ r)
def mComp (vs : List Nat) (it : M (List D)) (t : Tgt) (c : M Bool) (e : M Val) : M Val := bnd it fun ds ρ =>
  if noOw ρ vs then
    match compL t c e vs ds (wipeR ρ vs) with
    | .ok r ρ' => .ok (.ow r) (restore ρ ρ' vs)
    | _ => .bad
  else .bad

/-! ### what is walked -/
def itSeq (m : M Val) : M (List D) := bnd m fun v => lift (seqOf v.data)
def small (i : Int) : Bool := decide (-1000000 ≤ i ∧ i ≤ 1000000)
def rng (a c : Int) (n : Nat) : List D := (List.range n).map fun (k : Nat) => .int (a + (k : Int) * c)
def rngOf : List D → Option (List D)
  | [.int n] => if small n then some (rng 0 1 n.toNat) else none
  | [.int a, .int b] => if small a && small b then some (rng a 1 (b - a).toNat) else none
  | [.int a, .int b, .int c] => if small a && small b && decide (c = -1) then some (rng a (-1) (a - b).toNat) else none
  | _ => none
def itRng (as : List Opd) : M (List D) := bnd (runs as) fun xs => bnd (gets as xs) fun ds => lift (rngOf ds)
def enumL : Int → List D → List D
  | _, [] => []
  | k, d :: ds => .tuple [.int k, d] :: enumL (k + 1) ds
def itEnum (m : M Val) : M (List D) := bnd m fun v => bnd (lift (seqOf v.data)) fun ds => ret (enumL 0 ds)
def zipL : List D → List D → List D
  | x :: xs, y :: ys => .tuple [x, y] :: zipL xs ys
  | _, _ => []
def itZip (m n : M Val) : M (List D) := bnd m fun v => bnd n fun u => bnd (lift (seqOf v.data)) fun xs => bnd (lift (seqOf u.data)) fun ys => ret (zipL xs ys)

/-! ### defs -/
/-- how a def ends: its value, and the list that was handed in to be changed -/
inductive FR where
  | ok (v : Val) (o : Option (List D))
  | exc (c : Str) (ds : List D) (o : Option (List D))
  | bad
abbrev Fn := List Val → FR
structure FnE where
  f : Fn
  np : Nat
  br : Bool
/-- f(..), nothing handed in to be changed -/
def mCall (fe : FnE) (es : List (Bool × M Val)) : M Val := bnd (mItems es) fun ds ρ =>
  if ds.length = fe.np then match fe.f (ds.map .fz) with
    | .ok v _ => .ok v ρ
    | _ => .bad
  else .bad
/-- the slot holds a list of one's own -/
def chk (i : Nat) : M Unit := fun ρ => if isOw ρ[i]? then .ok () ρ else .bad
/-- f(x, ..), the list at slot i handed in to be changed -/
def mCallR (fe : FnE) (i : Nat) (es : List (Bool × M Val)) : M Val := bnd (chk i) fun _ => bnd (mItems es) fun ds ρ =>
  if ds.length + 1 = fe.np then match ρ[i]? with
    | some (some (.ow bs)) => match fe.f (.ow bs :: ds.map .fz) with
      | .ok v (some bs') => .ok v (ρ.set i (some (.ow bs')))
      | _ => .bad
    | _ => .bad
  else .bad

/-! ### statements -/
inductive Fl where
  | nx | bk | ct
  | rt (v : Val)
abbrev MS := M Fl
def sNx : MS := ret .nx
def sSeq (a b : MS) : MS := bnd a fun f => match f with
  | .nx => b
  | f => ret f
def sSet (i : Nat) (m : M Val) : MS := bnd m fun v => bnd (setS i v) fun _ => ret .nx
def sPut (t : Tgt) (m : M Val) : MS := bnd m fun v => bnd (t.put v.data) fun _ => ret .nx
/-- several values ahead of their stores -/
def temps : List (M Val) → M (List Val)
  | [] => ret []
  | m :: ms => bnd m fun v => bnd (temps ms) fun vs => ret (v :: vs)
def setAll : List Nat → List Val → M Unit
  | [], [] => ret ()
  | i :: is, v :: vs => bnd (setS i v) fun _ => setAll is vs
  | _, _ => stop
def sPar (is : List Nat) (ms : List (M Val)) : MS := bnd (temps ms) fun vs => bnd (setAll is vs) fun _ => ret .nx
def sDrop (m : M Val) : MS := bnd m fun _ => ret .nx
def sRet (m : M Val) : MS := bnd m fun v => ret (.rt v)
/-- return x, x a slot of the def's own: a list goes to the caller -/
def mMove (i : Nat) : M Val := fun ρ =>
  match ρ[i]? with
  | some (some v) => .ok v ρ
  | _ => .bad
def sIf (c : M Bool) (a b : MS) : MS := bnd c fun t => if t then a else b
def forL (t : Tgt) (b : MS) : List D → MS
  | [] => ret .nx
  | d :: ds => bnd (t.put d) fun _ => bnd b fun f => match f with
    | .nx => forL t b ds
    | .ct => forL t b ds
    | .bk => ret .nx
    | .rt v => ret (.rt v)
def sFor (it : M (List D)) (t : Tgt) (b : MS) : MS := bnd it fun ds => forL t b ds
def whileL (c : M Bool) (b : MS) : Nat → MS
  | 0 => stop
  | n + 1 => bnd c fun t => if t then bnd b fun f => match f with
    | .nx => whileL c b n
    | .ct => whileL c b n
    | .bk => ret .nx
    | .rt v => ret (.rt v) else ret .nx
/-- a change of the list at slot i -/
def chg {α : Type} (i : Nat) (f : List D → Option (α × List D)) : M α := fun ρ =>
  match ρ[i]? with
  | some (some (.ow ds)) => match f ds with
    | some (a, es) => .ok a (ρ.set i (some (.ow es)))
    | none => .bad
  | _ => .bad
def ixD (n : Nat) (i : Int) : Option Nat := L2.ixN n i
def putAt (d k : D) (ds : List D) : Option (Unit × List D) :=
  match k with
  | .int i => (ixD ds.length i).map fun j => ((), ds.set j d)
  | _ => none
/-- x[e] = m -/
def sItem (i : Nat) (e m : M Val) : MS := bnd m fun v => bnd (chk i) fun _ => bnd e fun k => bnd (chg i (putAt v.data k.data)) fun _ => ret .nx
def appD (d : D) (ds : List D) : Option (Unit × List D) := if ds.length < 16777216 then some ((), ds ++ [d]) else none
def sApp (i : Nat) (m : M Val) : MS := bnd (chk i) fun _ => bnd m fun v => bnd (chg i (appD v.data)) fun _ => ret .nx
def insD (k d : D) (ds : List D) : Option (Unit × List D) :=
  match k with
  | .int j => if 0 ≤ j ∧ j ≤ 1000000 ∧ ds.length < 16777216 then some ((), ds.take j.toNat ++ d :: ds.drop j.toNat) else none
  | _ => none
def sIns (i : Nat) (k m : M Val) : MS := bnd (chk i) fun _ => bnd k fun j => bnd m fun v => bnd (chg i (insD j.data v.data)) fun _ => ret .nx
/-- x op= e, x an int -/
def sAug (i : Nat) (op : Int → Int → Int) (m : M Val) : MS := fun ρ =>
  match ρ[i]? with
  | some (some (.fz (.int a))) => (bnd m fun v => match v.data with
    | .int b => bnd (setS i (.fz (.int (op a b)))) fun _ => ret .nx
    | _ => stop) ρ
  | _ => .bad
def getAt (k : Int) (ds : List D) : Option D := (ixD ds.length k).bind (ds[·]?)
/-- x[k] op= e, the item an int -/
def sAugI (i : Nat) (op : Int → Int → Int) (k m : M Val) : MS := bnd (chk i) fun _ => bnd k fun j => fun ρ =>
  match ρ[i]? with
  | some (some (.ow ds)) => match j.data with
    | .int n => match getAt n ds with
      | some (.int a) => (bnd m fun v => match v.data with
        | .int b => bnd (chg i (putAt (.int (op a b)) (.int n))) fun _ => ret .nx
        | _ => stop) ρ
      | _ => .bad
    | _ => .bad
  | _ => .bad

/-- the list handed in, as it is at the end -/
def out0 : List Val → Rho → Option (Option (List D))
  | .ow _ :: _, some (.ow es) :: _ => some (some es)
  | .ow _ :: _, _ => none
  | _, _ => some none
/-- a def by its body: N slots in all -/
def fnOf (N : Nat) (b : MS) : Fn := fun vs =>
  match b (vs.map some ++ List.replicate (N - vs.length) none) with
  | .ok f ρ => match out0 vs ρ with
    | some o => match f with
      | .rt v => .ok v o
      | .nx => .ok (.fz .none) o
      | _ => .bad
    | none => .bad
  | .exc c ds ρ => match out0 vs ρ with
    | some o => .exc c ds o
    | none => .bad
  | .bad => .bad
/-! ### operations -/
def intIn (i : Int) : Bool := decide (-(2 ^ 64) < i ∧ i < 2 ^ 64)
def oAdd : D → D → Option Val
  | .int a, .int b => some (.fz (.int (a + b)))
  | .tuple a, .tuple b => if a.length + b.length ≤ 16777216 then some (.fz (.tuple (a ++ b))) else none
  | .list a, .list b => if a.length + b.length ≤ 16777216 then some (.ow (a ++ b)) else none
  | _, _ => none
def oSub : D → D → Option Val
  | .int a, .int b => some (.fz (.int (a - b)))
  | _, _ => none
def oMul : D → D → Option Val
  | .int a, .int b => if intIn a || intIn b then some (.fz (.int (a * b))) else none
  | .tuple a, .int k => if 1 ≤ k ∧ k ≤ 1000 ∧ a.length ≤ 1000 then some (.fz (.tuple (List.replicate k.toNat a).flatten)) else none
  | .list a, .int k => if small k && decide (a.length * k.toNat ≤ 16777216) then some (.ow (List.replicate k.toNat a).flatten) else none
  | _, _ => none
def oMod : D → D → Option Val
  | .int a, .int b => if 0 < b then some (.fz (.int (a % b))) else none
  | _, _ => none
def oFdiv : D → D → Option Val
  | .int a, .int b => if 0 < b ∧ b < 1073741824 then some (.fz (.int (a / b))) else none
  | _, _ => none
def oPow : D → D → Option Val
  | .int a, .int b => if 0 ≤ b ∧ b ≤ 1000 ∧ intIn a then some (.fz (.int (a ^ b.toNat))) else none
  | _, _ => none
def oNeg : D → Option Val
  | .int a => some (.fz (.int (-a)))
  | _ => none
def oCmp (p : Int → Int → Bool) : D → D → Option Val
  | .int a, .int b => some (.fz (.bool (p a b)))
  | _, _ => none
def oLt := oCmp fun a b => decide (a < b)
def oLe := oCmp fun a b => decide (a ≤ b)
def oGt := oCmp fun a b => decide (b < a)
def oGe := oCmp fun a b => decide (b ≤ a)
def eqD (a b : D) : Option Bool :=
  match a, b with
  | .int i, .int j => some (decide (i = j))
  | a, b => if min a.depth b.depth ≤ 64 then some (PyData.eqv a b) else none
def oEq (a b : D) : Option Val := (eqD a b).map fun k => .fz (.bool k)
def oNe (a b : D) : Option Val := (eqD a b).map fun k => .fz (.bool (!k))
def isNon : D → Bool
  | .none => true
  | _ => false
def oIs : D → D → Option Val
  | a, .none => some (.fz (.bool (isNon a)))
  | _, _ => none
def oIsNot : D → D → Option Val
  | a, .none => some (.fz (.bool (!isNon a)))
  | _, _ => none
def oIx : D → D → Option Val
  | .list xs, .int i => ((ixD xs.length i).bind (xs[·]?)).map .fz
  | .tuple xs, .int i => ((ixD xs.length i).bind (xs[·]?)).map .fz
  | _, _ => none
def cutD (xs : List D) (lo hi : Option Int) : List D := (xs.drop (HT.sIx xs.length 0 lo)).take (HT.sIx xs.length xs.length hi - HT.sIx xs.length 0 lo)
def partOf : Option D → Option (Option Int)
  | none => some none
  | some (.int i) => some (some i)
  | _ => none
def oSl (d : D) (lo hi : Option Int) : Option Val :=
  match d with
  | .list xs => some (.ow (cutD xs lo hi))
  | .tuple xs => some (.fz (.tuple (cutD xs lo hi)))
  | _ => none
def part : Option (M Val) → M (Option Int)
  | none => ret none
  | some m => bnd m fun v => match v.data with
    | .int i => ret (some i)
    | _ => stop
def mSl (a : Opd) (lo hi : Option (M Val)) : M Val := bnd a.run fun x => bnd (part lo) fun l => bnd (part hi) fun h => bnd (a.get x) fun d => lift (oSl d l h)
def oLen : List D → Option Val
  | [.list xs] => some (.fz (.int xs.length))
  | [.tuple xs] => some (.fz (.int xs.length))
  | _ => none
def oInt : List D → Option Val
  | [.int i] => some (.fz (.int i))
  | [.bool b] => some (.fz (.int (if b then 1 else 0)))
  | _ => none
def oAbs : List D → Option Val
  | [.int i] => some (.fz (.int (if i < 0 then -i else i)))
  | _ => none
def oMax : List D → Option Val
  | [.int i, .int j] => some (.fz (.int (max i j)))
  | [.int i, .int j, .int k] => some (.fz (.int (max (max i j) k)))
  | _ => none
def oMin : List D → Option Val
  | [.int i, .int j] => some (.fz (.int (min i j)))
  | [.int i, .int j, .int k] => some (.fz (.int (min (min i j) k)))
  | _ => none
def oTuple : List D → Option Val
  | [.list xs] => some (.fz (.tuple xs))
  | [.tuple xs] => some (.fz (.tuple xs))
  | _ => none
def oList : List D → Option Val
  | [.list xs] => some (.ow xs)
  | [.tuple xs] => some (.ow xs)
  | _ => none
def boolsOf : List D → Option (List Bool)
  | [] => some []
  | .bool b :: ds => (boolsOf ds).map (b :: ·)
  | _ => none
def oAny : List D → Option Val
  | [.list xs] => (boolsOf xs).map fun bs => .fz (.bool (bs.any id))
  | _ => none
def oAll : List D → Option Val
  | [.list xs] => (boolsOf xs).map fun bs => .fz (.bool (bs.all id))
  | _ => none
def reprOk (d : D) : Bool := d.showable && decide (d.shown.length ≤ 16777216) && decide (d.depth ≤ 60)
def oRepr : List D → Option Val
  | [d] => if reprOk d then some (.fz (.str d.shown)) else none
  | _ => none
def lstRng (it : M (List D)) : M Val := bnd it fun ds => ret (.ow ds)
def tupRng (it : M (List D)) : M Val := bnd it fun ds => ret (.fz (.tuple ds))
end FK

/-! FkB: how an env lies in the heap (Sim): F, the part of the heap that nobody changes any more; lists of one's own beside it. -/
namespace FK
open PySem L2

theorem same_new {H : Hp} {p : Addr} {o : HO} (h : H p = none) : Same H (upd H p o) := fun b x e => by
  rw [upd_ne (ne_of_none e h)]; exact e
theorem sqL_mono {K : PySem.W.Frag} {H H' : Hp} {a : Addr} {xs : List V} (e : Same H H') (h : SqL K H a xs) : SqL K H' a xs := by
  rcases h with (q | ⟨o, q⟩) | q
  · exact .inl (.inl (e _ _ q))
  · exact .inl (.inr ⟨o, e _ _ q⟩)
  · exact .inr q
theorem sqT_mono {K : PySem.W.Frag} {H H' : Hp} {a : Addr} {xs : List V} (e : Same H H') (h : SqT K H a xs) : SqT K H' a xs := by
  rcases h with (q | ⟨o, q⟩) | q
  · exact .inl (.inl (e _ _ q))
  · exact .inl (.inr ⟨o, e _ _ q⟩)
  · exact .inr q
section
variable {K : PySem.W.Frag} {H H' : Hp}
mutual
theorem dp_mono (e : Same H H') : ∀ (d : D) (v : V), Dp K H v d → Dp K H' v d
  | .none, _, h => by cases h; exact .non
  | .bool b, _, h => by cases h; exact .bl b
  | .int i, _, h => by cases h; exact .int i
  | .str x, _, h => by cases h; exact .str x
  | .list ds, _, h => by
    cases h with
    | lst q qs => exact .lst (sqL_mono e q) (dps_mono e ds _ qs)
  | .tuple ds, _, h => by
    cases h with
    | tup q qs => exact .tup (sqT_mono e q) (dps_mono e ds _ qs)
  | .dict _, _, h => by cases h
theorem dps_mono (e : Same H H') : ∀ (ds : List D) (vs : List V), DpAll K H vs ds → DpAll K H' vs ds
  | [], _, h => by cases h; exact .nil
  | d :: ds, _, h => by
    cases h with
    | cons q qs => exact .cons (dp_mono e d _ q) (dps_mono e ds _ qs)
end
theorem dps_length : ∀ {ds : List D} {vs : List V}, DpAll K H vs ds → vs.length = ds.length
  | [], _, h => by cases h; rfl
  | _ :: ds, _, h => by
    cases h with
    | cons _ qs => simp [dps_length qs]
theorem dps_get : ∀ {ds : List D} {vs : List V} {i : Nat} {d : D}, DpAll K H vs ds → ds[i]? = some d → ∃ v, vs[i]? = some v ∧ Dp K H v d
  | [], _, i, _, h, e => by simp at e
  | d :: ds, _, 0, _, h, e => by
    cases h with
    | cons q _ => simp at e; subst e; exact ⟨_, rfl, q⟩
  | d :: ds, _, i + 1, _, h, e => by
    cases h with
    | cons _ qs =>
      obtain ⟨v, h1, h2⟩ := dps_get (i := i) qs (by simpa using e)
      exact ⟨v, by simpa using h1, h2⟩
theorem dps_get' : ∀ {ds : List D} {vs : List V} {i : Nat} {v : V}, DpAll K H vs ds → vs[i]? = some v → ∃ d, ds[i]? = some d ∧ Dp K H v d
  | [], _, i, _, h, e => by cases h; simp at e
  | d :: ds, _, 0, _, h, e => by
    cases h with
    | cons q _ => simp at e; subst e; exact ⟨_, rfl, q⟩
  | d :: ds, _, i + 1, _, h, e => by
    cases h with
    | cons _ qs =>
      obtain ⟨v, h1, h2⟩ := dps_get' (i := i) qs (by simpa using e)
      exact ⟨v, by simpa using h1, h2⟩
theorem dps_append : ∀ {ds es : List D} {vs us : List V}, DpAll K H vs ds → DpAll K H us es → DpAll K H (vs ++ us) (ds ++ es)
  | [], _, _, _, h, g => by cases h; exact g
  | d :: ds, _, _, _, h, g => by
    cases h with
    | cons q qs => exact .cons q (dps_append qs g)
theorem dps_drop : ∀ {ds : List D} {vs : List V} (n : Nat), DpAll K H vs ds → DpAll K H (vs.drop n) (ds.drop n)
  | _, _, 0, h => h
  | [], _, n + 1, h => by cases h; exact .nil
  | d :: ds, _, n + 1, h => by
    cases h with
    | cons _ qs => exact dps_drop n qs
theorem dps_take : ∀ {ds : List D} {vs : List V} (n : Nat), DpAll K H vs ds → DpAll K H (vs.take n) (ds.take n)
  | _, _, 0, h => .nil
  | [], _, n + 1, h => by cases h; exact .nil
  | d :: ds, _, n + 1, h => by
    cases h with
    | cons q qs => exact .cons q (dps_take n qs)
theorem dps_set : ∀ {ds : List D} {vs : List V} {v : V} {d : D} (n : Nat), DpAll K H vs ds → Dp K H v d → DpAll K H (vs.set n v) (ds.set n d)
  | [], _, _, _, _, h, _ => by cases h; exact .nil
  | _ :: _, _, _, _, 0, h, g => by
    cases h with
    | cons q qs => exact .cons g qs
  | _ :: _, _, _, _, n + 1, h, g => by
    cases h with
    | cons q qs => exact .cons q (dps_set n qs g)
theorem dps_rep {ds : List D} {vs : List V} (h : DpAll K H vs ds) : ∀ n : Nat, DpAll K H (List.replicate n vs).flatten (List.replicate n ds).flatten
  | 0 => .nil
  | n + 1 => by
    rw [List.replicate_succ, List.replicate_succ, List.flatten_cons, List.flatten_cons]
    exact dps_append h (dps_rep h n)
end

/-- the lists and tuples of the heap have a size that the machine bears -/
def szH : HO → Prop
  | .lst xs => xs.length ≤ sizeLine
  | .tup xs => xs.length ≤ sizeLine
  | .frz _ u => szH u
  | _ => True
def HSz (H : Hp) : Prop := ∀ a o, H a = some o → szH o
theorem HSz.new {H : Hp} {p : Addr} {o : HO} (h : HSz H) (z : szH o) : HSz (upd H p o) := fun a u e => by
  by_cases q : a = p
  · rw [q, upd_same] at e; cases e; exact z
  · rw [upd_ne q] at e; exact h a u e
theorem objOk_sz {P : Program} {w : World} {H : Hp} {h : Heap} {a : Addr} : ∀ {o : HO}, ObjOk P w H h a o → szH o
  | .lst _, q => q.1
  | .tup _, q => q.1
  | .frz _ u, q => objOk_sz (o := u) q.2
  | .dK _, _ => trivial
  | .dT _, _ => trivial
  | .set _ _, _ => trivial
  | .ins _ _ _, _ => trivial
  | .own _, _ => trivial
  | .xd _, _ => trivial
  | .met _ _, _ => trivial
  | .rng _ _, _ => trivial
  | .tbl _, _ => trivial
  | .ext _, _ => trivial
theorem hsz_of {P : Program} {w : World} {H : Hp} {h : Heap} (q : HOk P w H h) : HSz H := fun a o e => objOk_sz (q a o e)
theorem sqL_sz {K : PySem.W.Frag} {H : Hp} {a : Addr} {xs : List V} (z : HSz H) (h : SqL K H a xs) : xs.length ≤ sizeLine := by
  rcases h with (q | ⟨o, q⟩) | ⟨o, its, n, _, _, _, _, hz, r⟩
  · exact z _ _ q
  · exact z _ _ q
  · have e : xs.length = its.size := (Vals.length r).trans (by simp)
    rw [e]; exact hz
theorem sqT_sz {K : PySem.W.Frag} {H : Hp} {a : Addr} {xs : List V} (z : HSz H) (h : SqT K H a xs) : xs.length ≤ sizeLine := by
  rcases h with (q | ⟨o, q⟩) | ⟨o, its, n, _, _, _, hz, r⟩
  · exact z _ _ q
  · exact z _ _ q
  · have e : xs.length = its.size := (Vals.length r).trans (by simp)
    rw [e]; exact hz

/-- where a body runs: the heap and its fast part at the entry, the lists that were handed in to be changed -/
structure Ct where
  K : PySem.W.Frag
  H0 : Hp
  F0 : Hp
  Bs : List (Nat × Addr)
  /-- lists that wait to be used: nobody touches them -/
  Z : Hp

structure Sim (C : Ct) (F : Hp) (ρ : Rho) (σ : St) (H : Hp) : Prop where
  len : ρ.length = σ.length
  sub : Same F H
  sz : HSz H
  fz : ∀ (i : Nat) (d : D), ρ[i]? = some (some (.fz d)) → ∃ x, σ[i]? = some (some x) ∧ Dp C.K F x d
  ow : ∀ (i : Nat) (ds : List D), ρ[i]? = some (some (.ow ds)) → ∃ p xs, σ[i]? = some (some (.ref p)) ∧ F p = none ∧ H p = some (.lst xs) ∧ DpAll C.K F xs ds ∧ ((i, p) ∈ C.Bs ∨ C.H0 p = none)
  dist : ∀ (i j : Nat) (ds es : List D) (p : Addr), i ≠ j → ρ[i]? = some (some (.ow ds)) → ρ[j]? = some (some (.ow es)) → σ[i]? = some (some (.ref p)) → σ[j]? ≠ some (some (.ref p))
  brs : ∀ q ∈ C.Bs, σ[q.1]? = some (some (.ref q.2))
  bt : ∀ q ∈ C.Bs, H q.2 ≠ none
  ext : ∀ a o, C.H0 a = some o → (∀ q ∈ C.Bs, q.2 ≠ a) → H a = some o
  f0 : Same C.F0 F
  new : ∀ a, F a ≠ none → C.F0 a ≠ none ∨ C.H0 a = none ∨ ∃ q ∈ C.Bs, q.2 = a
  zp : ∀ a o, C.Z a = some o → H a = some o ∧ F a = none ∧ ∀ (i : Nat) (es : List D), ρ[i]? = some (some (.ow es)) → σ[i]? ≠ some (some (.ref a))

section
variable {C : Ct} {F F' H H' : Hp} {ρ ρ' : Rho} {σ σ' : St} {p : Addr} {xs : List V} {ds : List D}
theorem Sim.free (S : Sim C F ρ σ H) (h : H p = none) : F p = none := by
  cases q : F p with
  | none => rfl
  | some o => rw [S.sub _ _ q] at h; cases h
theorem Sim.freeZ (S : Sim C F ρ σ H) (h : H p = none) : C.Z p = none := by
  cases q : C.Z p with
  | none => rfl
  | some o => rw [(S.zp _ _ q).1] at h; cases h
theorem Sim.free0 (S : Sim C F ρ σ H) (h : H p = none) : C.H0 p = none := by
  cases q : C.H0 p with
  | none => rfl
  | some o =>
    by_cases hb : ∃ q ∈ C.Bs, q.2 = p
    · obtain ⟨q, hq, e⟩ := hb
      exact absurd h (by rw [← e]; exact S.bt q hq)
    · rw [S.ext p o q fun q' hq' e => hb ⟨q', hq', e⟩] at h; cases h

/-- the heap and its fast part grow at a free place -/
theorem Sim.grow {o : HO} (S : Sim C F ρ σ H) (h : H p = none) (z : szH o) : Sim C (upd F p o) ρ σ (upd H p o) where
  len := S.len
  sub := fun a u e => by
    by_cases q : a = p
    · rw [q, upd_same] at e ⊢; exact e
    · rw [upd_ne q] at e ⊢; exact S.sub _ _ e
  sz := S.sz.new z
  fz := fun i d e => let ⟨x, h1, h2⟩ := S.fz i d e; ⟨x, h1, dp_mono (same_new (S.free h)) _ _ h2⟩
  ow := fun i es e => by
    obtain ⟨q, ys, h1, h2, h3, h4, h5⟩ := S.ow i es e
    have ne : q ≠ p := ne_of_none h3 h
    exact ⟨q, ys, h1, by rw [upd_ne ne]; exact h2, by rw [upd_ne ne]; exact h3, dps_mono (same_new (S.free h)) _ _ h4, h5⟩
  dist := S.dist
  brs := S.brs
  bt := fun q hq => by
    by_cases e : q.2 = p
    · rw [e, upd_same]; simp
    · rw [upd_ne e]; exact S.bt q hq
  ext := fun a u e hb => by
    have e' := S.ext a u e hb
    rw [upd_ne (ne_of_none e' h)]; exact e'
  f0 := fun a u e => same_new (S.free h) a u (S.f0 a u e)
  new := fun a e => by
    by_cases q : a = p
    · subst q; exact .inr (.inl (S.free0 h))
    · rw [upd_ne q] at e; exact S.new a e
  zp := fun a u e => by
    obtain ⟨h1, h2, h3⟩ := S.zp a u e
    have ne := ne_of_none h1 h
    exact ⟨by rw [upd_ne ne]; exact h1, by rw [upd_ne ne]; exact h2, h3⟩
/-- a new tuple -/
theorem Sim.tup (S : Sim C F ρ σ H) (h : H p = none) (hd : DpAll C.K F xs ds) (hz : ds.length ≤ sizeLine) :
    Sim C (upd F p (.tup xs)) ρ σ (upd H p (.tup xs)) ∧ Dp C.K (upd F p (.tup xs)) (.ref p) (.tuple ds) :=
  ⟨S.grow h (by show xs.length ≤ sizeLine; rw [dps_length hd]; exact hz), .tup (.inl (.inl upd_same)) (dps_mono (same_new (S.free h)) _ _ hd)⟩
/-- a new list of one's own -/
theorem Sim.own (S : Sim C F ρ σ H) (h : H p = none) (hz : xs.length ≤ sizeLine) : Sim C F ρ σ (upd H p (.lst xs)) where
  len := S.len
  sub := fun a u e => by
    have e' := S.sub _ _ e
    rw [upd_ne (ne_of_none e' h)]; exact e'
  sz := S.sz.new hz
  fz := S.fz
  ow := fun i es e => by
    obtain ⟨q, ys, h1, h2, h3, h4, h5⟩ := S.ow i es e
    exact ⟨q, ys, h1, h2, by rw [upd_ne (ne_of_none h3 h)]; exact h3, h4, h5⟩
  dist := S.dist
  brs := S.brs
  bt := fun q hq => by
    by_cases e : q.2 = p
    · rw [e, upd_same]; simp
    · rw [upd_ne e]; exact S.bt q hq
  ext := fun a u e hb => by
    have e' := S.ext a u e hb
    rw [upd_ne (ne_of_none e' h)]; exact e'
  f0 := S.f0
  new := S.new
  zp := fun a u e => by
    obtain ⟨h1, h2, h3⟩ := S.zp a u e
    exact ⟨by rw [upd_ne (ne_of_none h1 h)]; exact h1, h2, h3⟩
/-- a new object that nobody knows -/
theorem Sim.laid {o : HO} (S : Sim C F ρ σ H) (h : H p = none) (hz : szH o) : Sim C F ρ σ (upd H p o) where
  len := S.len
  sub := fun a u e => by
    have e' := S.sub _ _ e
    rw [upd_ne (ne_of_none e' h)]; exact e'
  sz := S.sz.new hz
  fz := S.fz
  ow := fun i es e => by
    obtain ⟨q, ys, h1, h2, h3, h4, h5⟩ := S.ow i es e
    exact ⟨q, ys, h1, h2, by rw [upd_ne (ne_of_none h3 h)]; exact h3, h4, h5⟩
  dist := S.dist
  brs := S.brs
  bt := fun q hq => by
    by_cases e : q.2 = p
    · rw [e, upd_same]; simp
    · rw [upd_ne e]; exact S.bt q hq
  ext := fun a u e hb => by
    have e' := S.ext a u e hb
    rw [upd_ne (ne_of_none e' h)]; exact e'
  f0 := S.f0
  new := S.new
  zp := fun a u e => by
    obtain ⟨h1, h2, h3⟩ := S.zp a u e
    exact ⟨by rw [upd_ne (ne_of_none h1 h)]; exact h1, h2, h3⟩

/-- how a value lies: a datum in the fast part; a list that no slot holds -/
def RV (C : Ct) (F : Hp) (ρ : Rho) (σ : St) (H : Hp) (v : Val) (x : V) : Prop :=
  match v with
  | .fz d => Dp C.K F x d
  | .ow ds => ∃ p xs, x = .ref p ∧ F p = none ∧ H p = some (.lst xs) ∧ DpAll C.K F xs ds ∧ C.H0 p = none ∧ C.Z p = none ∧ ∀ (i : Nat) (es : List D), ρ[i]? = some (some (.ow es)) → σ[i]? ≠ some (some (.ref p))
theorem Sim.ownRV (S : Sim C F ρ σ H) (h : H p = none) (hd : DpAll C.K F xs ds) (hz : ds.length ≤ sizeLine) :
    Sim C F ρ σ (upd H p (.lst xs)) ∧ RV C F ρ σ (upd H p (.lst xs)) (.ow ds) (.ref p) :=
  ⟨S.own h (by rw [dps_length hd]; exact hz), p, xs, rfl, S.free h, upd_same, hd, S.free0 h, S.freeZ h, fun i es e => by
    obtain ⟨q, ys, h1, h2, h3, _⟩ := S.ow i es e
    rw [h1]
    intro z
    have z' : q = p := by injection (Option.some.inj (Option.some.inj z))
    rw [z', h] at h3; cases h3⟩
/-- a list that no slot holds is frozen -/
theorem Sim.freeze {v : Val} {x : V} (S : Sim C F ρ σ H) (r : RV C F ρ σ H v x) : ∃ F', Same F F' ∧ Sim C F' ρ σ H ∧ Dp C.K F' x v.data := by
  cases v with
  | fz d => exact ⟨F, Same.refl F, S, r⟩
  | ow ds =>
    obtain ⟨p, xs, rfl, hF, hH, hd, h0, hZ, hs⟩ := r
    have sm : Same F (upd F p (.lst xs)) := same_new hF
    refine ⟨upd F p (.lst xs), sm, ⟨S.len, ?_, S.sz, fun i d e => ?_, fun i es e => ?_, S.dist, S.brs, S.bt, S.ext, fun a u e => sm a u (S.f0 a u e), fun a e => ?_, fun a u e => ?_⟩, .lst (.inl (.inl upd_same)) (dps_mono sm _ _ hd)⟩
    · intro a u e
      by_cases q : a = p
      · rw [q, upd_same] at e; cases e; rw [q]; exact hH
      · rw [upd_ne q] at e; exact S.sub _ _ e
    · obtain ⟨x, h1, h2⟩ := S.fz i d e
      exact ⟨x, h1, dp_mono sm _ _ h2⟩
    · obtain ⟨q, ys, h1, h2, h3, h4, h5⟩ := S.ow i es e
      have ne : q ≠ p := fun z => hs i es e (by rw [h1, z])
      exact ⟨q, ys, h1, by rw [upd_ne ne]; exact h2, h3, dps_mono sm _ _ h4, h5⟩
    · by_cases q : a = p
      · subst q; exact .inr (.inl h0)
      · rw [upd_ne q] at e; exact S.new a e
    · obtain ⟨h1, h2, h3⟩ := S.zp a u e
      exact ⟨h1, by rw [upd_ne (ne_of_none e hZ)]; exact h2, h3⟩
/-- the list at a slot is frozen -/
theorem Sim.freezeAt {i : Nat} (S : Sim C F ρ σ H) (e : ρ[i]? = some (some (.ow ds))) : ∃ F' p, Same F F' ∧ Sim C F' (ρ.set i (some (.fz (.list ds)))) σ H ∧ σ[i]? = some (some (.ref p)) ∧ Dp C.K F' (.ref p) (.list ds) := by
  obtain ⟨p, xs, hσ, hF, hH, hd, hb⟩ := S.ow i ds e
  have sm : Same F (upd F p (.lst xs)) := same_new hF
  have hi : i < ρ.length := (List.getElem?_eq_some_iff.mp e).1
  have hdp : Dp C.K (upd F p (.lst xs)) (.ref p) (.list ds) := .lst (.inl (.inl upd_same)) (dps_mono sm _ _ hd)
  refine ⟨upd F p (.lst xs), p, sm, ⟨by rw [List.length_set]; exact S.len, ?_, S.sz, fun j d e' => ?_, fun j es e' => ?_, fun j k es fs q ne e1 e2 => ?_, S.brs, S.bt, S.ext, fun a u e => sm a u (S.f0 a u e), fun a e' => ?_, fun a u e' => ?_⟩, hσ, hdp⟩
  · intro a u e'
    by_cases q : a = p
    · rw [q, upd_same] at e'; cases e'; rw [q]; exact hH
    · rw [upd_ne q] at e'; exact S.sub _ _ e'
  · by_cases ij : i = j
    · subst ij
      rw [List.getElem?_set_self hi] at e'; cases e'
      exact ⟨_, hσ, hdp⟩
    · rw [List.getElem?_set_ne ij] at e'
      obtain ⟨x, h1, h2⟩ := S.fz j d e'
      exact ⟨x, h1, dp_mono sm _ _ h2⟩
  · by_cases ij : i = j
    · subst ij
      rw [List.getElem?_set_self hi] at e'; cases e'
    · rw [List.getElem?_set_ne ij] at e'
      obtain ⟨q, ys, h1, h2, h3, h4, h5⟩ := S.ow j es e'
      have ne : q ≠ p := fun z => S.dist i j ds es p ij e e' hσ (by rw [h1, z])
      exact ⟨q, ys, h1, by rw [upd_ne ne]; exact h2, h3, dps_mono sm _ _ h4, h5⟩
  · by_cases ij : i = j
    · subst ij
      rw [List.getElem?_set_self hi] at e1; cases e1
    · by_cases ik : i = k
      · subst ik
        rw [List.getElem?_set_self hi] at e2; cases e2
      · rw [List.getElem?_set_ne ij] at e1
        rw [List.getElem?_set_ne ik] at e2
        exact S.dist j k es fs q ne e1 e2
  · by_cases q : a = p
    · subst q
      rcases hb with hb | hb
      · exact .inr (.inr ⟨_, hb, rfl⟩)
      · exact .inr (.inl hb)
    · rw [upd_ne q] at e'; exact S.new a e'
  · obtain ⟨h1, h2, h3⟩ := S.zp a u e'
    have ne : a ≠ p := fun z => h3 i ds e (by rw [z]; exact hσ)
    refine ⟨h1, by rw [upd_ne ne]; exact h2, fun j es e2 => ?_⟩
    by_cases ij : i = j
    · subst ij
      rw [List.getElem?_set_self hi] at e2; cases e2
    · rw [List.getElem?_set_ne ij] at e2
      exact h3 j es e2
/-- a value is put into a slot -/
theorem Sim.put {i : Nat} {v : Val} {x : V} (S : Sim C F ρ σ H) (r : RV C F ρ σ H v x) (hb : ∀ q ∈ C.Bs, q.1 ≠ i) : Sim C F (ρ.set i (some v)) (σ.set i (some x)) H := by
  by_cases hi : i < ρ.length
  · have hi' : i < σ.length := by rw [← S.len]; exact hi
    refine ⟨by rw [List.length_set, List.length_set]; exact S.len, S.sub, S.sz, fun j d e => ?_, fun j es e => ?_, fun j k es fs q ne e1 e2 e3 => ?_, fun q hq => ?_, S.bt, S.ext, S.f0, S.new, fun a u e => ?_⟩
    · by_cases ij : i = j
      · subst ij
        rw [List.getElem?_set_self hi] at e
        cases e
        exact ⟨x, by rw [List.getElem?_set_self hi'], r⟩
      · rw [List.getElem?_set_ne ij] at e
        rw [List.getElem?_set_ne ij]
        exact S.fz j d e
    · by_cases ij : i = j
      · subst ij
        rw [List.getElem?_set_self hi] at e
        cases e
        obtain ⟨p, xs, rfl, h1, h2, h3, h4, _, _⟩ := r
        exact ⟨p, xs, by rw [List.getElem?_set_self hi'], h1, h2, h3, .inr h4⟩
      · rw [List.getElem?_set_ne ij] at e
        rw [List.getElem?_set_ne ij]
        exact S.ow j es e
    · by_cases ij : i = j
      · subst ij
        rw [List.getElem?_set_self hi] at e1
        cases e1
        obtain ⟨p, xs, rfl, h1, h2, h3, h4, hZ, h5⟩ := r
        rw [List.getElem?_set_ne ne] at e2
        rw [List.getElem?_set_self hi'] at e3
        cases e3
        rw [List.getElem?_set_ne ne]
        exact h5 k fs e2
      · rw [List.getElem?_set_ne ij] at e1 e3
        by_cases ik : i = k
        · subst ik
          rw [List.getElem?_set_self hi] at e2
          cases e2
          obtain ⟨p, xs, rfl, h1, h2, h3, h4, hZ, h5⟩ := r
          rw [List.getElem?_set_self hi']
          intro z
          cases z
          exact h5 j es e1 e3
        · rw [List.getElem?_set_ne ik] at e2
          rw [List.getElem?_set_ne ik]
          exact S.dist j k es fs q ne e1 e2 e3
    · rw [List.getElem?_set_ne (Ne.symm (hb q hq))]
      exact S.brs q hq
    · obtain ⟨h1, h2, h3⟩ := S.zp a u e
      refine ⟨h1, h2, fun j es e2 => ?_⟩
      by_cases ij : i = j
      · subst ij
        rw [List.getElem?_set_self hi] at e2
        cases e2
        obtain ⟨p, xs, rfl, _, _, _, _, hZ, _⟩ := r
        rw [List.getElem?_set_self hi']
        intro z
        cases z
        rw [hZ] at e; cases e
      · rw [List.getElem?_set_ne ij] at e2
        rw [List.getElem?_set_ne ij]
        exact h3 j es e2
  · have hi' : ¬ i < σ.length := by rw [← S.len]; exact hi
    rw [List.set_eq_of_length_le (by omega), List.set_eq_of_length_le (by omega)]
    exact S
/-- a slot is forgotten -/
theorem Sim.drop1 {i : Nat} (S : Sim C F ρ σ H) (hb : ∀ q ∈ C.Bs, q.1 ≠ i) : Sim C F (ρ.set i none) (σ.set i none) H := by
  have ne_of : ∀ {j : Nat} {v : Val}, (ρ.set i none)[j]? = some (some v) → i ≠ j ∧ ρ[j]? = some (some v) := fun {j v} e => by
    by_cases ij : i = j
    · subst ij
      by_cases hi : i < ρ.length
      · rw [List.getElem?_set_self hi] at e; cases e
      · rw [List.getElem?_eq_none (by rw [List.length_set]; omega)] at e; cases e
    · exact ⟨ij, by rw [List.getElem?_set_ne ij] at e; exact e⟩
  refine ⟨by rw [List.length_set, List.length_set]; exact S.len, S.sub, S.sz, fun j d e => ?_, fun j es e => ?_, fun j k es fs q ne e1 e2 e3 => ?_, fun q hq => ?_, S.bt, S.ext, S.f0, S.new, fun a u e => ?_⟩
  · obtain ⟨n, e⟩ := ne_of e
    rw [List.getElem?_set_ne n]; exact S.fz j d e
  · obtain ⟨n, e⟩ := ne_of e
    rw [List.getElem?_set_ne n]; exact S.ow j es e
  · obtain ⟨n1, e1⟩ := ne_of e1
    obtain ⟨n2, e2⟩ := ne_of e2
    rw [List.getElem?_set_ne n1] at e3
    rw [List.getElem?_set_ne n2]
    exact S.dist j k es fs q ne e1 e2 e3
  · rw [List.getElem?_set_ne (Ne.symm (hb q hq))]
    exact S.brs q hq
  · obtain ⟨h1, h2, h3⟩ := S.zp a u e
    refine ⟨h1, h2, fun j es e2 => ?_⟩
    obtain ⟨n, e2⟩ := ne_of e2
    rw [List.getElem?_set_ne n]
    exact h3 j es e2
theorem Sim.wiped (S : Sim C F ρ σ H) : ∀ (vs : List Nat), (∀ q ∈ C.Bs, q.1 ∉ vs) → Sim C F (wipeR ρ vs) (wipe σ vs) H
  | [], _ => S
  | v :: vs, hb => (S.wiped vs fun q hq z => hb q hq (List.mem_cons_of_mem _ z)).drop1 fun q hq z => hb q hq (by rw [z]; exact List.mem_cons_self)
/-- the list of a slot is changed -/
theorem Sim.change {i : Nat} {es : List D} {ys : List V} (S : Sim C F ρ σ H) (e : ρ[i]? = some (some (.ow ds))) (hσ : σ[i]? = some (some (.ref p))) (hy : DpAll C.K F ys es) (hz : es.length ≤ sizeLine) :
    Sim C F (ρ.set i (some (.ow es))) σ (upd H p (.lst ys)) := by
  obtain ⟨p', xs, hσ', hF, hH, hd, hb⟩ := S.ow i ds e
  rw [hσ] at hσ'; cases hσ'
  have hi : i < ρ.length := (List.getElem?_eq_some_iff.mp e).1
  have back : ∀ {j : Nat} {v : Val}, i ≠ j → (ρ.set i (some (.ow es)))[j]? = some (some v) → ρ[j]? = some (some v) := fun {j v} ij e' => by
    rw [List.getElem?_set_ne ij] at e'; exact e'
  have isow : ∀ {j : Nat} {fs : List D}, (ρ.set i (some (.ow es)))[j]? = some (some (.ow fs)) → ∃ gs, ρ[j]? = some (some (.ow gs)) := fun {j fs} e' => by
    by_cases ij : i = j
    · subst ij; exact ⟨ds, e⟩
    · exact ⟨fs, back ij e'⟩
  refine ⟨by rw [List.length_set]; exact S.len, fun a u e' => ?_, S.sz.new (by show ys.length ≤ sizeLine; rw [dps_length hy]; exact hz), fun j d e' => ?_, fun j fs e' => ?_, fun j k fs gs q ne e1 e2 => ?_, S.brs, fun q hq => ?_, fun a u e' hb' => ?_, S.f0, S.new, fun a u e' => ?_⟩
  · have ne : a ≠ p := ne_of_none e' hF
    rw [upd_ne ne]; exact S.sub _ _ e'
  · by_cases ij : i = j
    · subst ij
      rw [List.getElem?_set_self hi] at e'; cases e'
    · exact S.fz j d (back ij e')
  · by_cases ij : i = j
    · subst ij
      rw [List.getElem?_set_self hi] at e'; cases e'
      exact ⟨p, ys, hσ, hF, upd_same, hy, hb⟩
    · obtain ⟨q, zs, h1, h2, h3, h4, h5⟩ := S.ow j fs (back ij e')
      have ne : q ≠ p := fun z => S.dist i j ds fs p ij e (back ij e') hσ (by rw [h1, z])
      exact ⟨q, zs, h1, h2, by rw [upd_ne ne]; exact h3, h4, h5⟩
  · obtain ⟨g1, f1⟩ := isow e1
    obtain ⟨g2, f2⟩ := isow e2
    exact S.dist j k g1 g2 q ne f1 f2
  · by_cases z : q.2 = p
    · rw [z, upd_same]; simp
    · rw [upd_ne z]; exact S.bt q hq
  · have ne : a ≠ p := fun z => by
      rcases hb with hb | hb
      · exact hb' _ hb z.symm
      · rw [z, hb] at e'; cases e'
    rw [upd_ne ne]; exact S.ext a u e' hb'
  · obtain ⟨h1, h2, h3⟩ := S.zp a u e'
    have ne : a ≠ p := fun z => h3 i ds e (by rw [z]; exact hσ)
    refine ⟨by rw [upd_ne ne]; exact h1, h2, fun j fs e2 => ?_⟩
    obtain ⟨gs, e3⟩ := isow e2
    exact h3 j gs e3
/-- a waiting list is put aside -/
abbrev Ct.wz (C : Ct) (Z : Hp) : Ct := { C with Z := Z }
theorem Sim.lock (S : Sim C F ρ σ H) (h1 : F p = none) (h2 : H p = some (.lst xs)) (h3 : ∀ (i : Nat) (es : List D), ρ[i]? = some (some (.ow es)) → σ[i]? ≠ some (some (.ref p))) : Sim (C.wz (upd C.Z p (.lst xs))) F ρ σ H :=
  ⟨S.len, S.sub, S.sz, S.fz, S.ow, S.dist, S.brs, S.bt, S.ext, S.f0, S.new, fun a o e => by
    by_cases q : a = p
    · subst q
      have e' : upd C.Z a (.lst xs) a = some o := e
      rw [upd_same] at e'
      cases e'
      exact ⟨h2, h1, h3⟩
    · have e' : upd C.Z p (.lst xs) a = some o := e
      rw [upd_ne q] at e'
      exact S.zp a o e'⟩
theorem Sim.unlock {o : HO} (S : Sim (C.wz (upd C.Z p o)) F ρ σ H) (hZ : C.Z p = none) : Sim C F ρ σ H ∧ H p = some o ∧ F p = none ∧ ∀ (i : Nat) (es : List D), ρ[i]? = some (some (.ow es)) → σ[i]? ≠ some (some (.ref p)) :=
  ⟨⟨S.len, S.sub, S.sz, S.fz, S.ow, S.dist, S.brs, S.bt, S.ext, S.f0, S.new, fun a u e => S.zp a u (by
    show upd C.Z p o a = some u
    rw [upd_ne (ne_of_none e hZ)]
    exact e)⟩, S.zp p o upd_same⟩
/-- what a looked-at value is -/
def View (C : Ct) (F H : Hp) (x : V) (d : D) : Prop := Dp C.K F x d ∨ ∃ p xs ds, x = .ref p ∧ d = .list ds ∧ H p = some (.lst xs) ∧ DpAll C.K F xs ds
theorem Sim.viewAt {i : Nat} {v : Val} (S : Sim C F ρ σ H) (e : ρ[i]? = some (some v)) : ∃ x, σ[i]? = some (some x) ∧ View C F H x v.data := by
  cases v with
  | fz d =>
    obtain ⟨x, h1, h2⟩ := S.fz i d e
    exact ⟨x, h1, .inl h2⟩
  | ow ds =>
    obtain ⟨p, xs, h1, h2, h3, h4, _⟩ := S.ow i ds e
    exact ⟨_, h1, .inr ⟨p, xs, ds, rfl, rfl, h3, h4⟩⟩
/-- restore the slots at vs -/
theorem restore_get {ρ ρ' : Rho} (hl : ρ'.length = ρ.length) : ∀ (vs : List Nat) (i : Nat), (restore ρ ρ' vs)[i]? = if i ∈ vs ∧ i < ρ.length then some (ρ[i]?.getD none) else ρ'[i]?
  | [], i => by simp [restore]
  | v :: vs, i => by
    have hlen : ∀ ws, (restore ρ ρ' ws).length = ρ.length := fun ws => by
      induction ws with
      | nil => exact hl
      | cons w ws ih => simp [restore, ih]
    unfold restore
    by_cases q : v = i
    · subst q
      by_cases hi : v < ρ.length
      · rw [List.getElem?_set_self (by rw [hlen]; exact hi), if_pos ⟨List.mem_cons_self, hi⟩]
      · rw [if_neg (fun z => hi z.2), List.getElem?_eq_none (by rw [List.length_set, hlen]; omega), List.getElem?_eq_none (by omega)]
    · rw [List.getElem?_set_ne q, restore_get hl vs i]
      have : (i ∈ v :: vs) ↔ i ∈ vs := by simp [List.mem_cons, Ne.symm q]
      simp only [this]
end
end FK

/-! FkC: readings: expressions. -/
namespace FK
open PySem L2

/-- what is wanted of an exception that leaves: its class, its data, the env, the fast part, the slots -/
abbrev Wish := Str → List D → Rho → Hp → St → Prop
def WM (W : Wish) : Prop := ∀ c ds ρ F F' σ σ', Same F F' → W c ds ρ F σ → W c ds ρ F' σ'
def Pst {α : Type} (W : Wish) (F : Hp) (σ : St) (r : R α) (k : α → Rho → Prop) : Prop :=
  match r with
  | .ok a ρ => k a ρ
  | .exc c ds ρ => W c ds ρ F σ
  | .bad => False
section
variable {α β : Type} {W : Wish} {F F' : Hp} {σ σ' : St} {r : R α} {k k' : α → Rho → Prop} {m : M α} {g : α → M β} {ρ : Rho} {P : β → Rho → Prop}
theorem Pst.bnd : Pst W F σ (bnd m g ρ) P ↔ Pst W F σ (m ρ) fun a ρ1 => Pst W F σ (g a ρ1) P := by
  unfold Pst FK.bnd
  cases m ρ <;> exact Iff.rfl
theorem Pst.imp (h : Pst W F σ r k) (i : ∀ a ρ, k a ρ → k' a ρ) : Pst W F σ r k' := by
  unfold Pst at *
  cases r with
  | ok a ρ => exact i _ _ h
  | exc c ds ρ => exact h
  | bad => exact h
theorem Pst.mono (wm : WM W) (s : Same F F') (h : Pst W F σ r k) : Pst W F' σ r k := by
  unfold Pst at *
  cases r with
  | ok a ρ => exact h
  | exc c ds ρ => exact wm _ _ _ _ _ _ _ s h
  | bad => exact h
theorem Pst.monoS (wm : WM W) (s : Same F F') (h : Pst W F σ r k) : Pst W F' σ' r k := by
  unfold Pst at *
  cases r with
  | ok a ρ => exact h
  | exc c ds ρ => exact wm _ _ _ _ _ _ _ s h
  | bad => exact h
theorem bnd_assoc {γ : Type} (m : M α) (g : α → M β) (k : β → M γ) : FK.bnd (FK.bnd m g) k = FK.bnd m fun a => FK.bnd (g a) k := by
  funext ρ
  unfold FK.bnd
  cases m ρ <;> rfl
theorem Pst.lift {o : Option α} (h : Pst W F σ (FK.lift o ρ) k) : ∃ a, o = some a ∧ k a ρ := by
  cases o with
  | none => exact False.elim h
  | some a => exact ⟨a, rfl, h⟩
end

section
variable {X : Cx} {e : Expr} {t t' : TE} {σ : St} {H : Hp}
theorem PE.imp (h : PE X e t) (i : ∀ σ H Q, t' σ H Q → t σ H Q) : PE X e t' := ⟨fun pins s σ H Q I q => h.run pins s σ H Q I (i _ _ _ q)⟩
theorem PT.imp {t t' : TT} (h : PT X e t) (i : ∀ σ H Q, t' σ H Q → t σ H Q) : PT X e t' := ⟨fun pins s σ H Q I q => h.run pins s σ H Q I (i _ _ _ q)⟩
theorem PW.imp {t t' : TT} (h : PW X e t) (i : ∀ σ H Q, t' σ H Q → t σ H Q) : PW X e t' := ⟨fun whole pins s σ H Q I q => h.run whole pins s σ H Q I (i _ _ _ q)⟩
theorem PA.imp {es : List Expr} {t t' : TA} (h : PA X es t) (i : ∀ σ H Q, t' σ H Q → t σ H Q) : PA X es t' := ⟨fun pos pins s σ H Q I q => h.run pos pins s σ H Q I (i _ _ _ q)⟩
theorem PS.imp {st : Stmt} {t t' : TS} (h : PS X st t) (i : ∀ D σ H, t' D σ H → t D σ H) : PS X st t' := ⟨fun pins s σ H D I q => h.run pins s σ H D I (i _ _ _ q)⟩
theorem PSs.imp {st : List Stmt} {t t' : TS} (h : PSs X st t) (i : ∀ D σ H, t' D σ H → t D σ H) : PSs X st t' := ⟨fun pins s σ H D I q => h.run pins s σ H D I (i _ _ _ q)⟩
theorem PG.imp {tg : Expr} {t t' : TG} (h : PG X tg t) (i : ∀ v σ H Q, t' v σ H Q → t v σ H Q) : PG X tg t' := ⟨fun pins s σ H v u Q I r q => h.run pins s σ H v u Q I r (i _ _ _ _ q)⟩
theorem PI.imp {tg it : Expr} {t t' : TI} (h : PI X tg it t) (i : ∀ σ H R, t' σ H R → t σ H R) : PI X tg it t' := ⟨fun pins s σ H R I q => h.run pins s σ H R I (i _ _ _ q)⟩
end

/-! ### the readings -/
def rd (C : Ct) (W : Wish) (m : M Val) : TE := fun σ H Q => ∃ F ρ, Sim C F ρ σ H ∧ Pst W F σ (m ρ) fun v ρ' => ∀ F' H' x, Same F F' → Sim C F' ρ' σ H' → RV C F' ρ' σ H' v x → Q x H'
def rdT (C : Ct) (W : Wish) (m : M Bool) : TT := fun σ H Q => ∃ F ρ, Sim C F ρ σ H ∧ Pst W F σ (m ρ) fun b ρ' => ∀ F' H', Same F F' → Sim C F' ρ' σ H' → Q b H'
/-- an operand that was asked -/
def Got (C : Ct) (F : Hp) (σ : St) : Opd → Option D → V → Prop
  | .nm i, _, x => σ[i]? = some (some x)
  | .ex _, o, x => ∃ d, o = some d ∧ Dp C.K F x d
def rdO (C : Ct) (W : Wish) : Opd → TE
  | .nm i => tVar i
  | .ex m => rd C W m
section
variable {C : Ct} {W : Wish} {F F' H : Hp} {ρ ρ' : Rho} {σ : St} {x y : V} {v : Val}
theorem Got.mono (s : Same F F') : ∀ {a : Opd} {o : Option D}, Got C F σ a o x → Got C F' σ a o x
  | .nm _, _, h => h
  | .ex _, _, ⟨d, e, h⟩ => ⟨d, e, dp_mono s _ _ h⟩
theorem View.mono {H' : Hp} {d : D} (s : Same F F') (h : Dp C.K F x d) : View C F' H' x d := .inl (dp_mono s _ _ h)
theorem peek_of {i : Nat} {k : D → Rho → Prop} (h : Pst W F σ (peek i ρ) k) : ∃ v, ρ[i]? = some (some v) ∧ k v.data ρ := by
  unfold peek at h
  cases e : ρ[i]? with
  | none => rw [e] at h; exact False.elim h
  | some o =>
    cases o with
    | none => rw [e] at h; exact False.elim h
    | some v => rw [e] at h; exact ⟨v, rfl, h⟩
theorem opd_run (wm : WM W) {β : Type} {a : Opd} {k : Option D → M β} {P : β → Rho → Prop} {Rk : V → Hp → Prop} (S : Sim C F ρ σ H) (h : Pst W F σ (bnd a.run k ρ) P)
    (i : ∀ F1 H1 x o ρ1, Same F F1 → Sim C F1 ρ1 σ H1 → Got C F1 σ a o x → Pst W F1 σ (k o ρ1) P → Rk x H1) : rdO C W a σ H Rk := by
  cases a with
  | nm j =>
    have h := Pst.bnd.mp h
    unfold Opd.run at h
    have h := Pst.bnd.mp h
    obtain ⟨v, e, h⟩ := peek_of h
    obtain ⟨x, e1, _⟩ := S.viewAt e
    exact ⟨x, e1, i F H x none ρ (Same.refl F) S e1 h⟩
  | ex m =>
    have h := Pst.bnd.mp h
    unfold Opd.run at h
    have h := Pst.bnd.mp h
    refine ⟨F, ρ, S, h.imp fun v ρ1 h1 F1 H1 x sm S1 r1 => ?_⟩
    obtain ⟨F2, s2, S2, d2⟩ := S1.freeze r1
    exact i F2 H1 x (some v.data) ρ1 (sm.trans s2) S2 ⟨_, rfl, d2⟩ (Pst.mono wm (sm.trans s2) h1)
theorem opd_get {β : Type} {a : Opd} {o : Option D} {k : D → M β} {P : β → Rho → Prop} (S : Sim C F ρ σ H) (g : Got C F σ a o x) (h : Pst W F σ (bnd (a.get o) k ρ) P) : ∃ d, View C F H x d ∧ Pst W F σ (k d ρ) P := by
  cases a with
  | nm j =>
    have h : Pst W F σ (bnd (peek j) k ρ) P := h
    have h := Pst.bnd.mp h
    obtain ⟨v, e, h⟩ := peek_of h
    obtain ⟨x', e1, w⟩ := S.viewAt e
    have g' : σ[j]? = some (some x) := g
    rw [g'] at e1
    cases e1
    exact ⟨_, w, h⟩
  | ex m =>
    obtain ⟨d, rfl, q⟩ := g
    exact ⟨d, .inl q, h⟩

/-! ### operations by two operands -/
abbrev Kont (C : Ct) (F : Hp) (ρ : Rho) (σ : St) (v : Val) (Q : VK) : Prop := ∀ F' H' z, Same F F' → Sim C F' ρ σ H' → RV C F' ρ σ H' v z → Q z H'
def OpS (C : Ct) (r : R2) (f : D → D → Option Val) : Prop := ∀ (F : Hp) (ρ : Rho) (σ : St) (H : Hp) (x y : V) (d e : D) (v : Val) (Q : VK),
  Sim C F ρ σ H → View C F H x d → View C F H y e → f d e = some v → Kont C F ρ σ v Q → r x y H Q
def UnS (C : Ct) (r : V → Hp → VK → Prop) (f : D → Option Val) : Prop := ∀ (F : Hp) (ρ : Rho) (σ : St) (H : Hp) (x : V) (d : D) (v : Val) (Q : VK),
  Sim C F ρ σ H → View C F H x d → f d = some v → Kont C F ρ σ v Q → r x H Q
theorem bin_go (wm : WM W) {r : R2} {f : D → D → Option Val} {a b : Opd} {Q : VK} (hs : OpS C r f) (h : rd C W (mBin f a b) σ H Q) : tOp r (rdO C W a) (rdO C W b) σ H Q := by
  obtain ⟨F, ρ, S, h⟩ := h
  refine opd_run wm S h fun F1 H1 x o ρ1 s1 S1 g1 h1 => ?_
  refine opd_run wm S1 h1 fun F2 H2 y o2 ρ2 s2 S2 g2 h2 => ?_
  obtain ⟨d, w1, h3⟩ := opd_get S2 (g1.mono s2) h2
  obtain ⟨e, w2, h4⟩ := opd_get S2 g2 h3
  obtain ⟨v, e1, q⟩ := h4.lift
  exact hs F2 ρ2 σ H2 x y d e v Q S2 w1 w2 e1 fun F' H' z s S' r' => q F' H' z ((s1.trans s2).trans s) S' r'
theorem un_go (wm : WM W) {r : V → Hp → VK → Prop} {f : D → Option Val} {a : Opd} {Q : VK} (hs : UnS C r f) (h : rd C W (mUn f a) σ H Q) : tUn r (rdO C W a) σ H Q := by
  obtain ⟨F, ρ, S, h⟩ := h
  refine opd_run wm S h fun F1 H1 x o ρ1 s1 S1 g1 h1 => ?_
  obtain ⟨d, w1, h3⟩ := opd_get S1 g1 h1
  obtain ⟨v, e1, q⟩ := h3.lift
  exact hs F1 ρ1 σ H1 x d v Q S1 w1 e1 fun F' H' z s S' r' => q F' H' z (s1.trans s) S' r'
end

section
variable {X : Cx} {C : Ct} {W : Wish} {a b : Expr} {oa ob : Opd} {pos : Pos} {r : R2} {f : D → D → Option Val}
theorem fe_bin (wm : WM W) {op : Operator} (ho : OpR X (binaryOp op) r) (hs : OpS C r f) (ha : PE X a (rdO C W oa)) (hb : PE X b (rdO C W ob)) : PE X (.BinOp a op b pos) (rd C W (mBin f oa ob)) :=
  PE.imp (pe_op ho ha hb) fun _ _ _ h => bin_go wm hs h
theorem fe_cmp (wm : WM W) {op : CmpOp} (ho : OpR X (compareOp op) r) (hs : OpS C r f) (ha : PE X a (rdO C W oa)) (hb : PE X b (rdO C W ob)) (hm : behindInMarks op b = false) : PE X (.Compare a [op] [b] pos) (rd C W (mBin f oa ob)) :=
  PE.imp (pe_cmpR ho ha hb hm) fun _ _ _ h => bin_go wm hs h
theorem fe_un (wm : WM W) {op : UnaryOp} {r : V → Hp → VK → Prop} {f : D → Option Val} (ho : UnR X (unaryOp op) r) (hs : UnS C r f) (ha : PE X a (rdO C W oa)) : PE X (.UnaryOp op a pos) (rd C W (mUn f oa)) :=
  PE.imp (pe_un ho ha) fun _ _ _ h => un_go wm hs h
theorem fe_ix (wm : WM W) (ho : IxR X r) (hs : OpS C r f) (ha : PE X a (rdO C W oa)) (hb : PE X b (rdO C W ob)) (hp : PlainIx b) : PE X (.Subscript a b pos) (rd C W (mBin f oa ob)) :=
  PE.imp (pe_ix ho ha hb hp) fun _ _ _ h => bin_go wm hs h
/-- a test that a comparison is -/
def asT (m : M Val) : M Bool := bnd m fun v => lift (asBool v.data)
theorem asT_go {σ : St} {H : Hp} {m : M Val} {t : TE} {Q : Bool → Hp → Prop} (h : rdT C W (asT m) σ H Q) (i : ∀ Q, rd C W m σ H Q → t σ H Q) : tTest t σ H Q := by
  obtain ⟨F, ρ, S, h⟩ := h
  have h := Pst.bnd.mp h
  refine i _ ⟨F, ρ, S, h.imp fun v ρ' q F' H' x s S' r => ?_⟩
  obtain ⟨b, e, q⟩ := q.lift
  cases v with
  | ow ds => cases e
  | fz d =>
    cases d <;> first | cases e | skip
    cases r
    exact ⟨_, rfl, q F' H' s S'⟩
theorem ft_cmp (wm : WM W) {op : CmpOp} (ho : OpR X (compareOp op) r) (hs : OpS C r f) (ha : PE X a (rdO C W oa)) (hb : PE X b (rdO C W ob)) (hm : behindInMarks op b = false) : PT X (.Compare a [op] [b] pos) (rdT C W (asT (mBin f oa ob))) :=
  PT.imp (pt_cmpR ho ha hb hm) fun _ _ _ h => asT_go h fun _ q => bin_go wm hs q
end

/-! ### names, constants -/
section
variable {X : Cx} {C : Ct} {W : Wish} {e : Expr} {pos : Pos}
theorem rd_c {x : V} {d : D} (h : ∀ F, Dp C.K F x d) {σ : St} {H : Hp} {Q : VK} (q : rd C W (mC d) σ H Q) : tC x σ H Q := by
  obtain ⟨F, ρ, S, q⟩ := q
  exact q F H x (Same.refl F) S (h F)
theorem fe_int {i j pos} : PE X (.Constant (.int i) j pos) (rd C W (mC (.int i))) := PE.imp pe_int fun _ _ _ q => rd_c (fun _ => .int i) q
theorem fe_bl {b j pos} : PE X (.Constant (.bool b) j pos) (rd C W (mC (.bool b))) := PE.imp pe_bl fun _ _ _ q => rd_c (fun _ => .bl b) q
theorem fe_non {j pos} : PE X (.Constant .none j pos) (rd C W (mC .none)) := PE.imp pe_non fun _ _ _ q => rd_c (fun _ => .non) q
theorem fe_str {x j pos} : PE X (.Constant (.str x) j pos) (rd C W (mC (.str x))) := PE.imp pe_str fun _ _ _ q => rd_c (fun _ => .str x) q
theorem rd_v {i : Nat} {σ : St} {H : Hp} {Q : VK} (q : rd C W (mV i) σ H Q) : tVar i σ H Q := by
  obtain ⟨F, ρ, S, q⟩ := q
  unfold mV at q
  split at q
  · rename_i d e
    obtain ⟨x, h1, h2⟩ := S.fz _ _ e
    exact ⟨x, h1, q F H x (Same.refl F) S h2⟩
  · rename_i ds e
    obtain ⟨F', p, s, S', h1, h2⟩ := S.freezeAt e
    exact ⟨_, h1, q F' H _ s S' h2⟩
  · exact False.elim q
theorem fe_v {i : Nat} (h : PE X e (tVar i)) : PE X e (rd C W (mV i)) := PE.imp h fun _ _ _ q => rd_v q
/-- an operand that is any expression -/
theorem fo_ex {m : M Val} (h : PE X e (rd C W m)) : PE X e (rdO C W (.ex m)) := h
theorem fo_nm {i : Nat} (h : PE X e (tVar i)) : PE X e (rdO C W (.nm i)) := h
end

/-! ### lists of operands -/
def Gots (C : Ct) (F : Hp) (σ : St) : List Opd → List (Option D) → List V → Prop
  | [], [], [] => True
  | a :: as, o :: os, x :: xs => Got C F σ a o x ∧ Gots C F σ as os xs
  | _, _, _ => False
inductive Views (C : Ct) (F H : Hp) : List V → List D → Prop
  | nil : Views C F H [] []
  | cons {x : V} {xs : List V} {d : D} {ds : List D} : View C F H x d → Views C F H xs ds → Views C F H (x :: xs) (d :: ds)
def tOpds (C : Ct) (W : Wish) : List Opd → TA
  | [] => tNil
  | a :: as => tCons (rdO C W a) (tOpds C W as)
section
variable {C : Ct} {W : Wish} {F F' H : Hp} {σ : St}
theorem Gots.mono (s : Same F F') : ∀ {as : List Opd} {os : List (Option D)} {xs : List V}, Gots C F σ as os xs → Gots C F' σ as os xs
  | [], [], [], _ => trivial
  | [], [], _ :: _, h => h.elim
  | [], _ :: _, _, h => h.elim
  | _ :: _, [], _, h => h.elim
  | _ :: _, _ :: _, [], h => h.elim
  | _ :: _, _ :: _, _ :: _, ⟨h1, h2⟩ => ⟨h1.mono s, h2.mono s⟩
theorem runs_go (wm : WM W) {β : Type} {P : β → Rho → Prop} : ∀ (as : List Opd) {F H : Hp} {ρ : Rho} {k : List (Option D) → M β} {Rk : List V → Hp → Prop}, Sim C F ρ σ H → Pst W F σ (bnd (runs as) k ρ) P →
    (∀ F1 H1 xs os ρ1, Same F F1 → Sim C F1 ρ1 σ H1 → Gots C F1 σ as os xs → Pst W F1 σ (k os ρ1) P → Rk xs H1) → tOpds C W as σ H Rk
  | [], F, H, ρ, k, Rk, S, h, i => i F H [] [] ρ (Same.refl F) S trivial h
  | a :: as, F, H, ρ, k, Rk, S, h, i => by
    simp only [runs, bnd_assoc, bnd_ret] at h
    refine opd_run wm S h fun F1 H1 x o ρ1 s1 S1 g1 h1 => ?_
    refine runs_go wm as S1 h1 fun F2 H2 xs os ρ2 s2 S2 g2 h2 => ?_
    exact i F2 H2 (x :: xs) (o :: os) ρ2 (s1.trans s2) S2 ⟨g1.mono s2, g2⟩ h2
theorem gets_go {β : Type} {P : β → Rho → Prop} : ∀ (as : List Opd) {os : List (Option D)} {xs : List V} {F H : Hp} {ρ : Rho} {k : List D → M β}, Sim C F ρ σ H → Gots C F σ as os xs → Pst W F σ (bnd (gets as os) k ρ) P →
    ∃ ds, Views C F H xs ds ∧ Pst W F σ (k ds ρ) P
  | [], [], [], F, H, ρ, k, S, g, h => ⟨[], .nil, h⟩
  | [], [], _ :: _, _, _, _, _, _, g, _ => g.elim
  | [], _ :: _, _, _, _, _, _, _, g, _ => g.elim
  | _ :: _, [], _, _, _, _, _, _, g, _ => g.elim
  | _ :: _, _ :: _, [], _, _, _, _, _, g, _ => g.elim
  | a :: as, o :: os, x :: xs, F, H, ρ, k, S, ⟨g1, g2⟩, h => by
    simp only [gets, bnd_assoc, bnd_ret] at h
    obtain ⟨d, w1, h1⟩ := opd_get S g1 h
    obtain ⟨ds, w2, h2⟩ := gets_go as S g2 h1
    exact ⟨d :: ds, .cons w1 w2, h2⟩
end
def CaS (C : Ct) (r : List V → Hp → VK → Prop) (f : List D → Option Val) : Prop := ∀ (F : Hp) (ρ : Rho) (σ : St) (H : Hp) (xs : List V) (ds : List D) (v : Val) (Q : VK),
  Sim C F ρ σ H → Views C F H xs ds → f ds = some v → Kont C F ρ σ v Q → r xs H Q
section
variable {X : Cx} {C : Ct} {W : Wish} {pos p : Pos}
theorem fn_go (wm : WM W) {r : List V → Hp → VK → Prop} {f : List D → Option Val} {as : List Opd} {σ : St} {H : Hp} {Q : VK} (hs : CaS C r f) (h : rd C W (mFn f as) σ H Q) : tCB r (tOpds C W as) σ H Q := by
  obtain ⟨F, ρ, S, h⟩ := h
  refine runs_go wm as S h fun F1 H1 xs os ρ1 s1 S1 g1 h1 => ?_
  obtain ⟨ds, w, h2⟩ := gets_go as S1 g1 h1
  obtain ⟨v, e1, q⟩ := h2.lift
  exact hs F1 ρ1 σ H1 xs ds v Q S1 w e1 fun F' H' z s S' r' => q F' H' z (s1.trans s) S' r'
theorem fe_blt (wm : WM W) {r : List V → Hp → VK → Prop} {f : List D → Option Val} {as : List Opd} {id : String} {x : Str} {e : Expr} {es : List Expr} (hc : CallR X (.builtin id) r) (hs : CaS C r f) (hg : Gl X x) (hm : X.mg x = none) (hv : bootBuiltins x = some (.builtin id))
    (hn : x ≠ "__name__") (hd : (x == ("__debug__" : Str)) = false) (ha : PA X (e :: es) (tOpds C W as)) (h1 : starEach (e :: es) X.env = (false, eval e X.env) :: starEach es X.env) (h2 : (backTo pos (starEach es X.env)).any (·.1) = false) : PE X (.Call (.Name x p) (e :: es) [] pos) (rd C W (mFn f as)) :=
  PE.imp (pe_callB hc hg hm hv ha hn hd h1 h2) fun _ _ _ h => fn_go wm hs h
theorem fe_ty (wm : WM W) {r : List V → Hp → VK → Prop} {f : List D → Option Val} {as : List Opd} {T : String} {x : Str} {e : Expr} {es : List Expr} (hc : CallR X (.type T) r) (hs : CaS C r f) (hg : Gl X x) (hm : X.mg x = none) (hv : bootBuiltins x = some (.type T))
    (hn : x ≠ "__name__") (hd : (x == ("__debug__" : Str)) = false) (ha : PA X (e :: es) (tOpds C W as)) (h1 : starEach (e :: es) X.env = (false, eval e X.env) :: starEach es X.env) (h2 : (backTo pos (starEach es X.env)).any (·.1) = false) : PE X (.Call (.Name x p) (e :: es) [] pos) (rd C W (mFn f as)) :=
  PE.imp (pe_callTy hc hg hm hv ha hn hd h1 h2) fun _ _ _ h => fn_go wm hs h
end

/-! ### displays -/
def tItems (C : Ct) (W : Wish) : List (Bool × M Val) → TA
  | [] => tNil
  | (false, m) :: es => tCons (rd C W m) (tItems C W es)
  | (true, m) :: es => StX.tStar C.K (rd C W m) (tItems C W es)
section
variable {C : Ct} {W : Wish} {σ : St}
theorem seq_of {F : Hp} {x : V} {d : D} {ds : List D} (h : Dp C.K F x d) (e : seqOf d = some ds) : ∃ p xs, x = .ref p ∧ (SqT C.K F p xs ∨ SqL C.K F p xs) ∧ DpAll C.K F xs ds := by
  cases d <;> first | cases e | skip
  · cases h with
    | lst q qs => exact ⟨_, _, rfl, .inr q, qs⟩
  · cases h with
    | tup q qs => exact ⟨_, _, rfl, .inl q, qs⟩
theorem items_go (wm : WM W) {β : Type} {P : β → Rho → Prop} : ∀ (es : List (Bool × M Val)) {F H : Hp} {ρ : Rho} {k : List D → M β} {Rk : List V → Hp → Prop}, Sim C F ρ σ H → Pst W F σ (bnd (mItems es) k ρ) P →
    (∀ F1 H1 xs ds ρ1, Same F F1 → Sim C F1 ρ1 σ H1 → DpAll C.K F1 xs ds → Pst W F1 σ (k ds ρ1) P → Rk xs H1) → tItems C W es σ H Rk
  | [], F, H, ρ, k, Rk, S, h, i => i F H [] [] ρ (Same.refl F) S .nil h
  | (false, m) :: es, F, H, ρ, k, Rk, S, h, i => by
    simp only [mItems, bnd_assoc, bnd_ret] at h
    have h := Pst.bnd.mp h
    refine ⟨F, ρ, S, h.imp fun v ρ1 h1 F1 H1 x sm S1 r1 => ?_⟩
    obtain ⟨F2, s2, S2, d2⟩ := S1.freeze r1
    have h1 := Pst.mono wm (sm.trans s2) h1
    refine items_go wm es S2 h1 fun F3 H3 xs ds ρ3 s3 S3 g3 h3 => ?_
    exact i F3 H3 (x :: xs) (v.data :: ds) ρ3 ((sm.trans s2).trans s3) S3 (.cons (dp_mono s3 _ _ d2) g3) h3
  | (true, m) :: es, F, H, ρ, k, Rk, S, h, i => by
    simp only [mItems, bnd_assoc, bnd_ret] at h
    have h := Pst.bnd.mp h
    refine ⟨F, ρ, S, h.imp fun v ρ1 h1 F1 H1 x sm S1 r1 => ?_⟩
    obtain ⟨F2, s2, S2, d2⟩ := S1.freeze r1
    have h1 := Pst.mono wm (sm.trans s2) h1
    have h1 := Pst.bnd.mp h1
    obtain ⟨ds0, e0, h1⟩ := h1.lift
    obtain ⟨p, xs0, rfl, hq, hd⟩ := seq_of d2 e0
    refine ⟨p, xs0, rfl, hq.elim (fun q => .inl (sqT_mono S2.sub q)) (fun q => .inr (sqL_mono S2.sub q)), ?_⟩
    refine items_go wm es S2 h1 fun F3 H3 xs ds ρ3 s3 S3 g3 h3 => ?_
    exact i F3 H3 (xs0 ++ xs) (ds0 ++ ds) ρ3 ((sm.trans s2).trans s3) S3 (dps_append (dps_mono s3 _ _ hd) g3) h3
theorem szOk_iff {α : Type} {ds : List α} : szOk ds = true ↔ ds.length ≤ sizeLine := by
  unfold szOk
  rw [decide_eq_true_iff, PySem.sizeLine_eq]
theorem tup_go (wm : WM W) {es : List (Bool × M Val)} {H : Hp} {Q : VK} (h : rd C W (mTup es) σ H Q) : tTup (tItems C W es) σ H Q := by
  obtain ⟨F, ρ, S, h⟩ := h
  refine items_go wm es S h fun F1 H1 xs ds ρ1 s1 S1 g1 h1 => ?_
  by_cases z : szOk ds = true
  · rw [if_pos z] at h1
    have z' := szOk_iff.mp z
    refine ⟨by rw [dps_length g1]; exact z', fun p hp => ?_⟩
    obtain ⟨S2, d2⟩ := S1.tup hp g1 z'
    exact h1 _ _ _ (s1.trans (same_new (S1.free hp))) S2 d2
  · rw [if_neg z] at h1
    exact False.elim h1
theorem lst_go (wm : WM W) {es : List (Bool × M Val)} {H : Hp} {Q : VK} (h : rd C W (mLst es) σ H Q) : tLst (tItems C W es) σ H Q := by
  obtain ⟨F, ρ, S, h⟩ := h
  refine items_go wm es S h fun F1 H1 xs ds ρ1 s1 S1 g1 h1 => ?_
  by_cases z : szOk ds = true
  · rw [if_pos z] at h1
    have z' := szOk_iff.mp z
    refine ⟨by rw [dps_length g1]; exact z', fun p hp => ?_⟩
    obtain ⟨S2, d2⟩ := S1.ownRV hp g1 z'
    exact h1 _ _ _ s1 S2 d2
  · rw [if_neg z] at h1
    exact False.elim h1
end
section
variable {X : Cx} {C : Ct} {W : Wish} {pos : Pos} {es : List Expr} {ms : List (Bool × M Val)}
theorem fe_tup (wm : WM W) {x1} (h : PA X es (tItems C W ms)) : PE X (.Tuple es x1 pos) (rd C W (mTup ms)) := PE.imp (pe_tup h) fun _ _ _ q => tup_go wm q
theorem fe_lst (wm : WM W) (h : PA X es (tItems C W ms)) : PE X (.List es pos) (rd C W (mLst ms)) := PE.imp (pe_lst h) fun _ _ _ q => lst_go wm q
end

/-! ### tests -/
section
variable {X : Cx} {C : Ct} {W : Wish} {a b c e : Expr} {pos : Pos} {ma mb : M Bool} {rest : List Expr}
theorem ft_not (h : PT X a (rdT C W ma)) : PT X (.UnaryOp .Not a pos) (rdT C W (mNot ma)) := PT.imp (pt_not h) fun σ H Q q => by
  obtain ⟨F, ρ, S, q⟩ := q
  have q := Pst.bnd.mp q
  exact ⟨F, ρ, S, q.imp fun b ρ' q => q⟩
theorem and_go (wm : WM W) {σ : St} {H : Hp} {Q : Bool → Hp → Prop} (q : rdT C W (mAnd ma mb) σ H Q) : tAnd (rdT C W ma) (rdT C W mb) σ H Q := by
  obtain ⟨F, ρ, S, q⟩ := q
  have q := Pst.bnd.mp q
  refine ⟨F, ρ, S, q.imp fun b ρ' q F' H' s S' => ?_⟩
  cases b with
  | true =>
    rw [if_pos rfl] at q ⊢
    exact ⟨F', ρ', S', (Pst.mono wm s q).imp fun b ρ2 k F2 H2 s2 S2 => k F2 H2 (s.trans s2) S2⟩
  | false =>
    rw [if_neg (by decide)] at q ⊢
    exact q F' H' s S'
theorem or_go (wm : WM W) {σ : St} {H : Hp} {Q : Bool → Hp → Prop} (q : rdT C W (mOr ma mb) σ H Q) : tOr (rdT C W ma) (rdT C W mb) σ H Q := by
  obtain ⟨F, ρ, S, q⟩ := q
  have q := Pst.bnd.mp q
  refine ⟨F, ρ, S, q.imp fun b ρ' q F' H' s S' => ?_⟩
  cases b with
  | false =>
    rw [if_neg (by decide)] at q ⊢
    exact ⟨F', ρ', S', (Pst.mono wm s q).imp fun b ρ2 k F2 H2 s2 S2 => k F2 H2 (s.trans s2) S2⟩
  | true =>
    rw [if_pos rfl] at q ⊢
    exact q F' H' s S'
theorem fw_and1 (ha : PT X a (rdT C W ma)) : PW X (.BoolOp .And [a] pos) (rdT C W ma) := pw_and1 ha
theorem fw_or1 (ha : PT X a (rdT C W ma)) : PW X (.BoolOp .Or [a] pos) (rdT C W ma) := pw_or1 ha
theorem fw_and (wm : WM W) (ha : PT X a (rdT C W ma)) (hb : PW X (.BoolOp .And (b :: rest) pos) (rdT C W mb)) : PW X (.BoolOp .And (a :: b :: rest) pos) (rdT C W (mAnd ma mb)) := PW.imp (pw_and ha hb) fun _ _ _ q => and_go wm q
theorem fw_or (wm : WM W) (ha : PT X a (rdT C W ma)) (hb : PW X (.BoolOp .Or (b :: rest) pos) (rdT C W mb)) : PW X (.BoolOp .Or (a :: b :: rest) pos) (rdT C W (mOr ma mb)) := PW.imp (pw_or ha hb) fun _ _ _ q => or_go wm q
theorem tru_of {F H : Hp} {x : V} {d : D} {k : Bool} (s : Same F H) (w : View C F H x d) (e : truth d = some k) : TruV C.K x H k := by
  rcases w with w | ⟨p, xs, ds, rfl, rfl, h1, h2⟩
  · cases d <;> first | cases e | skip
    · cases w; rfl
    · cases w; rfl
    · cases w; rfl
    · cases w with
      | lst q qs =>
        refine .inl ⟨_, sqL_mono s q, ?_⟩
        have := dps_length qs
        rename_i ds p xs
        cases ds <;> cases xs <;> first | rfl | simp at this
    · cases w with
      | tup q qs =>
        refine .inr (.inl ⟨_, sqT_mono s q, ?_⟩)
        have := dps_length qs
        rename_i ds p xs
        cases ds <;> cases xs <;> first | rfl | simp at this
  · cases e
    refine .inl ⟨xs, .inl (.inl h1), ?_⟩
    have := dps_length h2
    cases ds <;> cases xs <;> first | rfl | simp at this
theorem ft_tr (wm : WM W) {oa : Opd} (hK : C.K = X.K) (ha : PE X a (rdO C W oa)) (he : ∀ whole, isTrue a X.env whole = (do let v ← whole; standAt a.pos; holding [v] (truthy v))) : PT X a (rdT C W (mT oa)) := PT.imp (pt_truth ha he) fun σ H Q q => by
  obtain ⟨F, ρ, S, q⟩ := q
  refine opd_run wm S q fun F1 H1 x o ρ1 s1 S1 g1 h1 => ?_
  obtain ⟨d, w, h2⟩ := opd_get S1 g1 h1
  obtain ⟨k, e, q⟩ := h2.lift
  exact ⟨k, by rw [← hK]; exact tru_of S1.sub w e, q F1 H1 s1 S1⟩
theorem fe_if (wm : WM W) {mc : M Bool} {m n : M Val} (hc : PT X c (rdT C W mc)) (ha : PE X a (rd C W m)) (hb : PE X b (rd C W n)) : PE X (.IfExp c a b pos) (rd C W (mIf mc m n)) := PE.imp (pe_ifExp hc ha hb) fun σ H Q q => by
  obtain ⟨F, ρ, S, q⟩ := q
  have q := Pst.bnd.mp q
  refine ⟨F, ρ, S, q.imp fun t ρ' q F' H' s S' => ?_⟩
  cases t with
  | true =>
    rw [if_pos rfl] at q ⊢
    exact ⟨F', ρ', S', (Pst.mono wm s q).imp fun v ρ2 k F2 H2 x s2 S2 => k F2 H2 x (s.trans s2) S2⟩
  | false =>
    rw [if_neg (by decide)] at q ⊢
    exact ⟨F', ρ', S', (Pst.mono wm s q).imp fun v ρ2 k F2 H2 x s2 S2 => k F2 H2 x (s.trans s2) S2⟩
/-- and, or, not as values -/
theorem bl_go {σ : St} {H : Hp} {m : M Val} {k : Bool → M Val} {Q : VK} {R' : V → Hp → Prop} (q : rd C W (bnd (mBl m) k) σ H Q)
    (i : ∀ F F' H' b ρ', Same F F' → Sim C F' ρ' σ H' → Pst W F σ (k b ρ') (fun v ρ2 => ∀ F2 H2 x, Same F F2 → Sim C F2 ρ2 σ H2 → RV C F2 ρ2 σ H2 v x → Q x H2) → R' (.bl b) H') : rd C W m σ H R' := by
  obtain ⟨F, ρ, S, q⟩ := q
  have q := Pst.bnd.mp q
  unfold mBl at q
  have q := Pst.bnd.mp q
  refine ⟨F, ρ, S, q.imp fun v ρ' q F' H' x s S' r => ?_⟩
  obtain ⟨b, e, q⟩ := q.lift
  cases v with
  | ow ds => cases e
  | fz d =>
    cases d <;> first | cases e | skip
    cases r
    exact i F F' H' _ ρ' s S' q
theorem fe_and (wm : WM W) {m n : M Val} (ha : PE X a (rd C W m)) (hb : PE X (.BoolOp .And (b :: rest) pos) (rd C W n)) : PE X (.BoolOp .And (a :: b :: rest) pos) (rd C W (mAndV m n)) := PE.imp (pe_and ha hb) fun σ H Q q => by
  refine bl_go q fun F F' H' b ρ' s S' q => ⟨b, rfl, ?_⟩
  cases b with
  | true => exact ⟨F', ρ', S', (Pst.mono wm s q).imp fun v ρ2 k F2 H2 x s2 S2 => k F2 H2 x (s.trans s2) S2⟩
  | false => exact q F' H' _ s S' (.bl _)
theorem fe_or (wm : WM W) {m n : M Val} (ha : PE X a (rd C W m)) (hb : PE X (.BoolOp .Or (b :: rest) pos) (rd C W n)) : PE X (.BoolOp .Or (a :: b :: rest) pos) (rd C W (mOrV m n)) := PE.imp (pe_or ha hb) fun σ H Q q => by
  refine bl_go q fun F F' H' b ρ' s S' q => ⟨b, rfl, ?_⟩
  cases b with
  | false => exact ⟨F', ρ', S', (Pst.mono wm s q).imp fun v ρ2 k F2 H2 x s2 S2 => k F2 H2 x (s.trans s2) S2⟩
  | true => exact q F' H' _ s S' (.bl _)
end
end FK

/-! FkD0: rules of the machine that the hand layer lacks: lists of any kind added and repeated, tuples repeated, enumerate of anything, repr of data. -/
namespace FK
open PySem L2
section
theorem meets_listAdd (l : Addr) (is : Array Value) (n : Nat) (d : Option Addr) (sl : Array (Option Value)) (b : Addr) (js : Array Value) (k : Nat) (e : Option Addr) (tl : Array (Option Value)) (hz : is.size + js.size ≤ sizeLine) :
    Meets (Builtin.«list.__add__» ⟨[.ref l, .ref b], []⟩) (fun _ R s => s.heap.get? l = some { cls := .type "list", dict := d, data := .seq is n, slots := sl } ∧ s.heap.get? b = some { cls := .type "list", dict := e, data := .seq js k, slots := tl } ∧
      R (.ok (.ret (Value.ref s.heap.objs.size))) { s with heap := s.heap.push { cls := Value.type "list", data := Data.seq (is ++ js) }, toks := s.toks }) :=
  .of_wp fun prog w A R s h => by
    obtain ⟨hp, g, dr, tk, os⟩ := s
    obtain ⟨h1, h2, h3⟩ := h
    have x1 := AutoSeq1.idx_int
    have x3 := AutoSeq1.sub_list_list
    wp_walk using wpAny_loadPart' h1, wpAny_loadPart' h2
    exact ⟨_, rfl, h3⟩
theorem meets_rmulList (a : Int) (t : Tok) (l : Addr) (is : Array Value) (n : Nat) (d : Option Addr) (sl : Array (Option Value)) :
    Meets (Builtin.«int.__rmul__» ⟨[.int a t, .ref l], []⟩) (fun _ R s => s.heap.get? l = some { cls := .type "list", dict := d, data := .seq is n, slots := sl } ∧ R (.ok (.ret Value.notImplemented)) s) :=
  .of_wp fun prog w A R s h => by
    obtain ⟨hp, g, dr, tk, os⟩ := s
    obtain ⟨h1, h2⟩ := h
    wp_walk using wpAny_loadPart' h1
    exact ⟨_, rfl, h2⟩
theorem meets_listMul (l : Addr) (is : Array Value) (n : Nat) (d : Option Addr) (sl : Array (Option Value)) (x : Int) (u : Tok) (c0 : ¬(!Builtin.List.listFitsIndex x) = true) (c1 : ¬is.size * x.toNat > (2 ^ 63 - 1) / 8) (c2 : ¬Builtin.List.listTooLong (is.size * x.toNat) = true)
    (hz : (List.foldl (fun x1 x2 => x1 ++ x2) #[] (List.replicate (if is.isEmpty = true then 0 else x.toNat) is)).size ≤ sizeLine) :
    Meets (Builtin.«list.__mul__» ⟨[.ref l, .int x u], []⟩) (fun _ R s => s.heap.get? l = some { cls := .type "list", dict := d, data := .seq is n, slots := sl } ∧
      R (.ok (.ret (Value.ref s.heap.objs.size))) { s with heap := s.heap.push { cls := Value.type "list", data := Data.seq (List.foldl (fun x1 x2 => x1 ++ x2) #[] (List.replicate (if is.isEmpty = true then 0 else x.toNat) is)) }, toks := s.toks }) :=
  .of_wp fun prog w A R s h => by
    obtain ⟨hp, g, dr, tk, os⟩ := s
    obtain ⟨h1, h2⟩ := h
    have x1 := AutoSeq1.idx_int
    wp_walk using wpAny_loadPart' h1
    repeat (first
      | (refine wpAny_ite_false (decide_eq_false c0) ?_; wp_walk using wpAny_loadPart' h1)
      | (refine wpAny_ite_false (decide_eq_false c1) ?_; wp_walk using wpAny_loadPart' h1)
      | (refine wpAny_ite_false (decide_eq_false c2) ?_; wp_walk using wpAny_loadPart' h1)
      | (refine wpAny_ite_false (decide_eq_false (Nat.not_lt.mpr hz)) ?_; wp_walk using wpAny_loadPart' h1))
    exact ⟨_, rfl, h2⟩
theorem meets_tupMul1 (l : Addr) (is : Array Value) (n : Nat) (d : Option Addr) (sl : Array (Option Value)) (x : Int) (u : Tok) (c0 : (decide (x < -(2 ^ 63)) || decide (x ≥ 2 ^ 63)) = false) (c1 : (is.isEmpty || x == 1) = true) :
    Meets (Builtin.«tuple.__mul__» ⟨[.ref l, .int x u], []⟩) (fun _ R s => s.heap.get? l = some { cls := .type "tuple", dict := d, data := .seq is n, slots := sl } ∧ R (.ok (.ret (Value.ref l))) s) :=
  .of_wp fun prog w A R s h => by
    obtain ⟨hp, g, dr, tk, os⟩ := s
    obtain ⟨h1, h2⟩ := h
    have x1 := AutoSeq1.idx_int
    wp_walk using wpAny_loadPart' h1
    repeat (first
      | (refine wpAny_ite_false (decide_eq_false (by rw [c0]; exact Bool.false_ne_true)) ?_; wp_walk using wpAny_loadPart' h1)
      | (refine wpAny_ite_true (decide_eq_true c1) ?_; wp_walk using wpAny_loadPart' h1))
    exact ⟨_, rfl, h2⟩
end
end FK

/-! FkD1: these rules over the hand layer. -/
namespace FK
open PySem L2 PyProof.Rows
section
variable {X : Cx}
theorem lst_obj {h : Heap} {a : Addr} {its : Array Value} (p : PlainL h a its) : ∃ n sl, h.get? a = some { cls := .type "list", dict := none, data := .seq its n, slots := sl } := by
  obtain ⟨⟨c, d, dt, sl⟩, n, h1, h2, h3, h4⟩ := p
  simp only at h2 h3 h4
  subst h2 h3 h4
  exact ⟨n, sl, h1⟩
theorem tup_obj {h : Heap} {a : Addr} {its : Array Value} (p : IsTup h a its) : ∃ n d sl, h.get? a = some { cls := .type "tuple", dict := d, data := .seq its n, slots := sl } := by
  obtain ⟨⟨c, d, dt, sl⟩, h1, h2, n, h4⟩ := p
  simp only at h2 h4
  subst h2 h4
  exact ⟨n, d, sl, h1⟩
def rCatL (K : PySem.W.Frag) : R2 := fun x y H Q => ∃ l b xs zs, x = .ref l ∧ y = .ref b ∧ SqL K H l xs ∧ SqL K H b zs ∧ xs.length + zs.length ≤ sizeLine ∧ ∀ p, H p = none → Q (.ref p) (upd H p (.lst (xs ++ zs)))
theorem op_catL : OpR X (binaryOp .Add) (rCatL X.K) := by
  intro pins s σ H x y v u Q I rx ry h
  obtain ⟨l, b, xs, zs, rfl, rfl, h1, h2, hz, q⟩ := h
  cases rx
  cases ry
  obtain ⟨i1, r1, p1, _⟩ := I.list h1
  obtain ⟨i2, r2, p2, _⟩ := I.list h2
  obtain ⟨n1, s1, e1⟩ := lst_obj p1
  obtain ⟨n2, s2, e2⟩ := lst_obj p2
  have l1 : xs.length = i1.length := r1.length
  have l2 : zs.length = i2.length := r2.length
  have hsz : i1.toArray.size + i2.toArray.size ≤ sizeLine := by simp only [List.size_toArray]; omega
  refine concat_meets (T := "list") ⟨_, e1, rfl⟩ ⟨_, e2, rfl⟩ noFill_list_add seq_list_add PySem.F.slot_list_add PySem.F.entry_list_add (PySem.F.args_list_add_2 _ _) (meets_listAdd l _ n1 _ s1 b _ n2 _ s2 hsz) ⟨e1, e2, ?_⟩
  have ea : i1.toArray ++ i2.toArray = (i1 ++ i2).toArray := by simp
  rw [ea]
  exact ⟨.ref _, _, I.lnew (t' := s.toks) (r1.append r2) (by rw [List.length_append]; exact hz), rfl, q _ I.fresh⟩
def rRepL (K : PySem.W.Frag) : R2 := fun x y H Q => ∃ l k xs, x = .ref l ∧ y = .int k ∧ SqL K H l xs ∧ -1000000 ≤ k ∧ k ≤ 1000000 ∧ xs.length * k.toNat ≤ sizeLine ∧ ∀ p, H p = none → Q (.ref p) (upd H p (.lst (List.replicate k.toNat xs).flatten))
theorem op_repL : OpR X (binaryOp .Mult) (rRepL X.K) := by
  intro pins s σ H x y v u Q I rx ry h
  obtain ⟨l, k, xs, rfl, rfl, h1, k1, k2, hz, q⟩ := h
  cases rx
  obtain ⟨t, rfl⟩ := ry
  obtain ⟨its, r, p, _⟩ := I.list h1
  obtain ⟨n, sl, e⟩ := lst_obj p
  have hl : xs.length = its.length := r.length
  have c0 : ¬ (!Builtin.List.listFitsIndex k) = true := by
    rw [fitsIndex_both (show -(2 ^ 63) ≤ k by omega) (show k < 2 ^ 63 by omega)]
    exact Bool.false_ne_true
  have hsize : its.toArray.size * k.toNat ≤ sizeLine := by rw [List.size_toArray, ← hl]; exact hz
  have c1 : ¬ its.toArray.size * k.toNat > (2 ^ 63 - 1) / 8 := by
    have : (sizeLine : Nat) ≤ (2 ^ 63 - 1) / 8 := by decide
    omega
  have c2 : ¬ Builtin.List.listTooLong (its.toArray.size * k.toNat) = true := by
    rw [notLongL hsize]
    exact Bool.false_ne_true
  have hnew : List.foldl (fun x1 x2 => x1 ++ x2) #[] (List.replicate (if its.toArray.isEmpty = true then 0 else k.toNat) its.toArray) = (List.replicate k.toNat its).flatten.toArray := by
    have f0 : ∀ m : Nat, List.foldl (fun x1 x2 => x1 ++ x2) #[] (List.replicate m its.toArray) = (List.replicate m its).flatten.toArray := fun m => size_rep its m
    rw [f0]
    cases its with
    | nil => simp
    | cons a r' => rw [if_neg (by simp)]
  have flen : (List.replicate k.toNat its).flatten.length ≤ sizeLine := by
    rw [PyProof.Rows.lm_len_rep_flat, Nat.mul_comm, ← hl]; exact hz
  refine wpAny_binaryOp_repeat_ref (T := "list") (U := "int") (by decide) ⟨_, e, rfl⟩ (fun s' => typeIs_int s' k t) noFill_list_mul PySem.F.fills_int_mul PySem.F.slot_int_rmul repeat_list PySem.F.slot_int_index.lookup
    (call_meets PySem.F.slot_int_rmul (typeIs_int s k t) PySem.F.entry_int_rmul (PySem.F.args_int_rmul_2 _ _) (meets_rmulList k t l its.toArray n none sl) ⟨e, rfl, ⟨_, e, rfl⟩, ?_⟩)
  refine call_meets PySem.F.slot_list_mul ⟨_, e, rfl⟩ PySem.F.entry_list_mul (PySem.F.args_list_mul_2 _ _) (meets_listMul l its.toArray n none sl k t c0 c1 c2 (by rw [hnew, List.size_toArray]; exact flen)) ⟨e, ?_⟩
  rw [hnew]
  exact ⟨.ref _, _, I.lnew (t' := s.toks) (r.rep k.toNat) (by rw [PyProof.Rows.lm_len_rep_flat, Nat.mul_comm]; exact hz), rfl, q _ I.fresh⟩
def rRepTA (K : PySem.W.Frag) : R2 := fun x y H Q => ∃ l k xs, x = .ref l ∧ y = .int k ∧ SqT K H l xs ∧ 1 ≤ k ∧ k ≤ 1000 ∧ xs.length ≤ 1000 ∧
  ((xs = [] ∨ k = 1) → Q (.ref l) H) ∧ (xs ≠ [] → k ≠ 1 → ∀ p, H p = none → Q (.ref p) (upd H p (.tup (List.replicate k.toNat xs).flatten)))
theorem op_repTA : OpR X (binaryOp .Mult) (rRepTA X.K) := by
  intro pins s σ H x y v u Q I rx ry h
  obtain ⟨l, k, xs, rfl, rfl, h1, k1, k2, hz, q1, q2⟩ := h
  by_cases hc : xs = [] ∨ k = 1
  · cases rx
    obtain ⟨t, rfl⟩ := ry
    obtain ⟨its, r, p, _⟩ := I.tuple h1
    obtain ⟨n, d, sl, e⟩ := tup_obj p
    have hl : xs.length = its.length := r.length
    have c0 : (decide (k < -(2 ^ 63)) || decide (k ≥ 2 ^ 63)) = false := by
      rw [decide_eq_false (by omega), decide_eq_false (by omega)] <;> rfl
    have c1 : (its.toArray.isEmpty || k == 1) = true := by
      rcases hc with hc | hc
      · subst hc
        cases its with
        | nil => rfl
        | cons a b => simp at hl
      · subst hc; simp
    refine wpAny_binaryOp_repeat_ref (T := "tuple") (U := "int") (by decide) ⟨_, e, rfl⟩ (fun s' => typeIs_int s' k t) noFill_tuple_mul PySem.F.fills_int_mul PySem.F.slot_int_rmul repeat_tuple PySem.F.slot_int_index.lookup
      (call_meets PySem.F.slot_int_rmul (typeIs_int s k t) PySem.F.entry_int_rmul (PySem.F.args_int_rmul_2 _ _) (int_rmul_tuple k t l its.toArray n d sl)
        ⟨e, rfl, ⟨_, e, rfl⟩, call_meets PySem.F.slot_tuple_mul ⟨_, e, rfl⟩ PySem.F.entry_tuple_mul (PySem.F.args_tuple_mul_2 _ _) (meets_tupMul1 l its.toArray n d sl k t c0 c1) ⟨e, ?_⟩⟩)
    exact ⟨.ref l, H, I, rfl, q1 hc⟩
  · have n1 : xs ≠ [] := fun z => hc (.inl z)
    have n2 : k ≠ 1 := fun z => hc (.inr z)
    exact op_repT pins s σ H _ _ v u Q I rx ry ⟨l, k, xs, rfl, rfl, h1, n1, by omega, k2, hz, q2 n1 n2⟩

/-! ### repr -/
theorem dp_nodict {K : PySem.W.Frag} {H : Hp} : ∀ {d : PyData} {v : V}, Dp K H v d → d.hasDict = false := by
  intro d
  have both : (∀ d : PyData, ∀ v, Dp K H v d → d.hasDict = false) ∧ True := by
    refine ⟨?_, trivial⟩
    intro d
    refine PyData.rec (motive_1 := fun d => ∀ v, Dp K H v d → d.hasDict = false) (motive_2 := fun ds => ∀ vs, DpAll K H vs ds → PyData.hasDictAll ds = false) (motive_3 := fun _ => True) (motive_4 := fun _ => True) ?_ ?_ ?_ ?_ ?_ ?_ ?_ ?_ ?_ ?_ ?_ ?_ d
    · intros; rfl
    · intros; rfl
    · intros; rfl
    · intros; rfl
    · intro ds ih v h
      cases h with
      | lst _ q => exact ih _ q
    · intro ds ih v h
      cases h with
      | tup _ q => exact ih _ q
    · intro kvs _ v h; cases h
    · intros; rfl
    · intro d ds ih1 ih2 vs h
      cases h with
      | cons q qs => simp only [PyData.hasDictAll, ih1 _ q, ih2 _ qs, Bool.or_self]
    · trivial
    · intros; trivial
    · intros; trivial
  exact fun {v} h => both.1 d v h
def rReprD (K : PySem.W.Frag) : List V → Hp → VK → Prop := fun xs H Q => ∃ x d, xs = [x] ∧ Dp K H x d ∧ d.showable = true ∧ d.shown.length ≤ sizeLine ∧ d.depth ≤ 60 ∧ Q (.str d.shown) H
theorem cr_reprD (hg : X.A.guards = some []) (hu : X.A.units + 65 < cLine) : CallR X (.builtin "repr") (rReprD X.K) := by
  intro pins s σ H xs us Q I r h
  obtain ⟨x, d, rfl, hd, hs, hz, hdep, q⟩ := h
  obtain ⟨u, rfl, ru⟩ := vals1 r
  have fin : ∀ (z : PySem.Str) (k : Tok) (h' : Heap) (tk : Nat), (∀ b o, s.heap.get? b = some o → h'.get? b = some o) → z = d.shown → EP X pins σ Q (.str z k) { s with heap := h', toks := tk } := fun z k h' tk kp e =>
    by
    subst e
    exact ⟨.str d.shown, H, I.kept (t' := tk) kp, ⟨k, rfl⟩, q⟩
  have hnd := dp_nodict hd
  cases hx : x with
  | ref a =>
    subst hx
    cases ru
    obtain ⟨as, rr⟩ := Dp.reads I d _ _ hd rfl
    exact repr_of_reads' rr hs (PySem.PyData.noDict_hsm hnd) hg (by omega) (fun _ _ e => e) (fun h' u tk hk => fin _ _ _ _ hk rfl) hz
  | non => subst hx; cases hd; cases ru; exact PySem.P.repr_of_none (fin _ _ _ _ (fun _ _ e => e) (by simp [PyData.shown]))
  | bl b => subst hx; cases hd; cases ru; exact PySem.P.repr_of_bool (fin _ _ _ _ (fun _ _ e => e) (by cases b <;> simp [PyData.shown]))
  | int i =>
    subst hx; cases hd; obtain ⟨t, rfl⟩ := ru
    have hi : i.natAbs.log2 < 1920 := by simpa [PyData.showable] using hs
    exact PySem.P.repr_of_int hi (fin _ _ _ _ (fun _ _ e => e) (by simp [PyData.shown]))
  | str z =>
    subst hx; cases hd; obtain ⟨t, rfl⟩ := ru
    exact PySem.P.repr_of_str (fin _ _ _ _ (fun _ _ e => e) (by simp [PyData.shown])) (by simpa [PyData.shown] using hz)
  | byt b => subst hx; cases hd
  | flt b => subst hx; cases hd
  | ty b => subst hx; cases hd

/-! ### max, min of three -/
theorem cr_max3 (hc : X.calm = true) : CallR X (.builtin "max") (fun xs H Q => ∃ i j k, xs = [.int i, .int j, .int k] ∧ Q (.int (max (max i j) k)) H) := by
  intro pins s σ H xs us Q I r h
  obtain ⟨i, j, k, rfl, q⟩ := h
  refine call_max3Nu hc pins s σ H _ us Q I r ⟨.int i, .int j, .int k, .int (max (max i j) k), rfl, ?_, q⟩
  simp only [nuMax3, nuMax2, nuLt, nuCB, Option.map_some, Option.bind_some]
  congr 1
  by_cases h1 : i < j
  · simp only [h1, decide_true, if_true, nuMax2, nuLt, nuCB, Option.map_some]
    by_cases h2 : j < k
    · simp only [h2, decide_true, if_true]; congr 2; omega
    · simp only [h2, decide_false, Bool.false_eq_true, if_false]; congr 2; omega
  · simp only [h1, decide_false, Bool.false_eq_true, if_false, nuMax2, nuLt, nuCB, Option.map_some]
    by_cases h2 : i < k
    · simp only [h2, decide_true, if_true]; congr 2; omega
    · simp only [h2, decide_false, Bool.false_eq_true, if_false]; congr 2; omega
theorem cr_min3 (hc : X.calm = true) : CallR X (.builtin "min") (fun xs H Q => ∃ i j k, xs = [.int i, .int j, .int k] ∧ Q (.int (min (min i j) k)) H) := by
  intro pins s σ H xs us Q I r h
  obtain ⟨i, j, k, rfl, q⟩ := h
  refine call_min3Nu hc pins s σ H _ us Q I r ⟨.int i, .int j, .int k, .int (min (min i j) k), rfl, ?_, q⟩
  simp only [nuMin3, nuMin2, nuLt, nuCB, Option.map_some, Option.bind_some]
  congr 1
  by_cases h1 : j < i
  · simp only [h1, decide_true, if_true, nuMin2, nuLt, nuCB, Option.map_some]
    by_cases h2 : k < j
    · simp only [h2, decide_true, if_true]; congr 2; omega
    · simp only [h2, decide_false, Bool.false_eq_true, if_false]; congr 2; omega
  · simp only [h1, decide_false, Bool.false_eq_true, if_false, nuMin2, nuLt, nuCB, Option.map_some]
    by_cases h2 : k < i
    · simp only [h2, decide_true, if_true]; congr 2; omega
    · simp only [h2, decide_false, Bool.false_eq_true, if_false]; congr 2; omega
end
end FK

/-! FkD2: what is walked: lists and tuples in any mix, enumerate, zip. -/
namespace FK
open PySem L2 PyProof.Rows

/-- a kind of sequence (lists, tuples): how it is read, what its iterator is -/
structure Src (P : Program) (w : World) (K : PySem.W.Frag) (S : Hp → Addr → List V → Prop) (so : Heap → Addr → Array Value → Prop) (io : Heap → Addr → Addr → Nat → Prop) (ob : Addr → Obj) : Prop where
  draws : ∀ (A : Around), A.handled = none → ∀ (it a : Addr), a ≠ it → ∀ items : Array Value, Draws P w A it [it, a] items.size (fun i v => items[i]? = some v) (fun i h => io h it a i ∧ so h a items)
  read : ∀ (X : Cx), X.prog = P → X.w = w → X.K = K → ∀ (pins : List (Addr × Obj)) (σ : L2.St) (H : Hp) (s : Shared) (a : Addr) (xs : List V), Inv X pins σ H s → S H a xs → ∃ its : List Value, Vals xs its ∧ so s.heap a its.toArray
  inj : ∀ (X : Cx), X.prog = P → X.w = w → X.K = K → ∀ (pins : List (Addr × Obj)) (σ : L2.St) (H : Hp) (s : Shared) (a : Addr) (xs ys : List V), Inv X pins σ H s → S H a xs → S H a ys → xs = ys
  lt : ∀ h a its, so h a its → a < h.objs.size
  iobj : ∀ h it a i, io h it a i → ∃ o, h.get? it = some o ∧ ∀ v, o.data ≠ .cell v
  ikeep : ∀ h h' it a i, io h it a i → (∀ o, h.get? it = some o → h'.get? it = some o) → io h' it a i
  begins : ∀ a its, Begins (.ref a) (ob a) fun h => so h a its
  first : ∀ (h : Heap) (it a : Addr), h.get? it = some (ob a) → io h it a 0
section
variable {P : Program} {w : World} {K : PySem.W.Frag}
theorem src_list : Src P w K (SqL K) (fun h a its => h.IsList a its) (fun h it a i => h.IsListIter it a i) (fun a => { cls := .type "list_iterator", data := .fields #[.ref a, .int 0 0] }) where
  draws := fun A hh it a ne items => Draws.list hh it a ne items
  read := fun X e1 e2 e3 pins σ H s a xs I h => by
    subst e3
    obtain ⟨its, r, p, _⟩ := I.list h
    exact ⟨its, r, p.isList⟩
  inj := fun X e1 e2 e3 pins σ H s a xs ys I h1 h2 => by subst e3; exact I.list_inj h1 h2
  lt := fun h a its ⟨o, e, _⟩ => Heap.lt_size e
  iobj := fun h it a i ⟨o, e, _, d⟩ => ⟨o, e, fun v q => by rw [d] at q; cases q⟩
  ikeep := fun h h' it a i x k => x.at k
  begins := fun a its => begins_list a its
  first := fun h it a e => ⟨_, e, rfl, rfl⟩
theorem src_tup : Src P w K (SqT K) (fun h a its => h.IsTuple a its) (fun h it a i => h.IsTupleIter it a i) (fun a => { cls := .type "tuple_iterator", data := .fields #[.ref a, .int 0 0] }) where
  draws := fun A hh it a ne items => Draws.tuple hh it a ne items
  read := fun X e1 e2 e3 pins σ H s a xs I h => by
    subst e3
    obtain ⟨its, r, p, _⟩ := I.tuple h
    exact ⟨its, r, p⟩
  inj := fun X e1 e2 e3 pins σ H s a xs ys I h1 h2 => by subst e3; exact I.tuple_inj h1 h2
  lt := fun h a its ⟨o, e, _⟩ => Heap.lt_size e
  iobj := fun h it a i ⟨o, e, _, d⟩ => ⟨o, e, fun v q => by rw [d] at q; cases q⟩
  ikeep := fun h h' it a i x k => x.at k
  begins := fun a its => begins_tuple a its
  first := fun h it a e => ⟨_, e, rfl, rfl⟩

/-! ### enumerate -/
def ItE (S : Hp → Addr → List V → Prop) (a : Addr) (k : Int) : It :=
  ⟨fun i H => ∃ xs x, S H a xs ∧ xs[i]? = some x,
    fun i H v H' => ∃ T x, v = .ref T ∧ H T = none ∧ H' = upd H T (.tup [.int (k + (i : Nat)), x]) ∧ ∀ xs, S H a xs → xs[i]? = some x,
    fun i H => ∃ xs, S H a xs ∧ xs.length = i⟩
theorem turn_E {S : Hp → Addr → List V → Prop} {so : Heap → Addr → Array Value → Prop} {io : Heap → Addr → Addr → Nat → Prop} {ob : Addr → Obj} (R : Src P w K S so io ob) {elts : List Expr} {kk : Nat} {tpos : Pos} (a e it : Addr) (k : Int) (nei : e ≠ it) (nea : e ≠ a) (nia : a ≠ it) :
    Turn P w K (.Tuple elts kk tpos) (ItE S a k) [e, it] e (fun i h => (∃ old, IsEnum h e it (k + (i : Nat)) old) ∧ io h it a i) where
  mem := by simp
  obj := fun i h st b hb => by
    obtain ⟨⟨old, he⟩, hi⟩ := st
    have hb' : b = e ∨ b = it := by simpa using hb
    rcases hb' with z | z
    · rw [z]; exact ⟨_, he, fun v q => nomatch q⟩
    · rw [z]; exact R.iobj _ _ _ _ hi
  keep := fun i h h' st kp => ⟨st.1.imp fun old he => kp e (by simp) _ he, R.ikeep _ _ _ _ _ st.2 fun o q => kp it (by simp) o q⟩
  item := by
    intro X e1 e2 e3 hc i pins s σ H E I hf st hg
    obtain ⟨xs, x, hS, hx⟩ := hg
    obtain ⟨its, rv, hso⟩ := R.read X e1 e2 e3 pins σ H s a xs I hS
    subst e1 e2
    have hn : i < its.toArray.size := by
      have := (List.getElem?_eq_some_iff.mp hx).1
      have l : xs.length = its.length := Vals.length rv
      rw [List.size_toArray]; omega
    have G := GoesN.enumFrom (A := X.A) (elts := elts) (x1 := kk) (pos := tpos) k (R.draws X.A.in1 (I.ok.hd hc) it a nia its.toArray) e nei (by simp [nei, nea]) (by simp)
    refine G.goes i s _ E hn ⟨st.1, st.2, hso⟩ fun v h' tk hY st' hk htk => ?_
    obtain ⟨T, t, y, rfl, hT, hy, hIs⟩ := hY
    obtain ⟨u, hu, ru⟩ := rv.get hx
    have ey : y = u := by
      rw [List.getElem?_toArray, hu] at hy
      exact (Option.some.inj hy).symm
    subst ey
    have new : ObjOk X.prog X.w (upd H T (.tup [.int (k + (i : Nat)), x])) h' T (.tup [.int (k + (i : Nat)), x]) := ⟨by show 2 ≤ sizeLine; decide, [.int (k + (i : Nat)) t, y], .cons ⟨t, rfl⟩ (.cons ru .nil), hIs⟩
    have I1 : Inv X pins σ (upd H T (.tup [.int (k + (i : Nat)), x])) { s with heap := h', toks := tk } := I.turnedNew (ch := [e, it]) hk hf hT new
    refine ⟨.ref T, _, I1, rfl, ⟨T, x, rfl, I.hok.fresh hT, rfl, fun ys hys => by rw [R.inj X rfl rfl e3 pins σ H s a ys xs I hys hS]; exact hx⟩, ⟨?_, st'.2.1⟩, fun b hb => ?_⟩
    · obtain ⟨old, q⟩ := st'.1
      exact ⟨old, q⟩
    · have hlt : b < s.heap.objs.size := by
        have hb' : b = e ∨ b = it := by simpa using hb
        rcases hb' with z | z
        · obtain ⟨old, q⟩ := st.1
          rw [z]; exact Heap.lt_size q
        · obtain ⟨o, q, _⟩ := R.iobj _ _ _ _ st.2
          rw [z]; exact Heap.lt_size q
      rw [upd_ne (Nat.ne_of_lt (Nat.lt_of_lt_of_le hlt hT))]
      exact (hf b hb).1
  done := by
    intro X e1 e2 e3 hc i pins s σ H E I hf st hg
    obtain ⟨xs, hS, hx⟩ := hg
    obtain ⟨its, rv, hso⟩ := R.read X e1 e2 e3 pins σ H s a xs I hS
    subst e1 e2
    have hn : i = its.toArray.size := by
      have l : xs.length = its.length := Vals.length rv
      rw [List.size_toArray]; omega
    have G := GoesN.enumFrom (A := X.A) (elts := elts) (x1 := kk) (pos := tpos) k (R.draws X.A.in1 (I.ok.hd hc) it a nia its.toArray) e nei (by simp [nei, nea]) (by simp)
    subst hn
    exact G.stops s _ E ⟨st.1, st.2, hso⟩ fun h' tk hk htk => I.turnedL (ch := [e, it]) hk hf
  self := fun A i s Q E st h => by
    obtain ⟨⟨old, he⟩, _⟩ := st
    exact wpAny_pyIter_enum he h

/-! ### zip -/
def ItZ (S1 S2 : Hp → Addr → List V → Prop) (a b : Addr) : It :=
  ⟨fun i H => ∃ xs ys x y, S1 H a xs ∧ S2 H b ys ∧ xs[i]? = some x ∧ ys[i]? = some y,
    fun i H v H' => ∃ T x y, v = .ref T ∧ H T = none ∧ H' = upd H T (.tup [x, y]) ∧ (∀ xs, S1 H a xs → xs[i]? = some x) ∧ ∀ ys, S2 H b ys → ys[i]? = some y,
    fun i H => ∃ xs ys, S1 H a xs ∧ S2 H b ys ∧ min xs.length ys.length = i⟩
theorem turn_Z {S1 S2 : Hp → Addr → List V → Prop} {so1 so2 : Heap → Addr → Array Value → Prop} {io1 io2 : Heap → Addr → Addr → Nat → Prop} {ob1 ob2 : Addr → Obj} (R1 : Src P w K S1 so1 io1 ob1) (R2 : Src P w K S2 so2 io2 ob2)
    {elts : List Expr} {kk : Nat} {tpos : Pos} {a b z TI TO i1 i2 : Addr} (D : ZipSep2 z TI TO i1 i2 [i1, a] [i2, b]) (n1 : a ≠ i1) (n2 : b ≠ i2) :
    Turn P w K (.Tuple elts kk tpos) (ItZ S1 S2 a b) [z, TI, TO, i1, i2] z (fun i h => IsZip h z TI TO .none ∧ IsTupOf2 h TI (.ref i1) (.ref i2) ∧ (∃ x y, IsTupOf2 h TO x y) ∧ io1 h i1 a i ∧ io2 h i2 b i) where
  mem := by simp
  obj := fun i h st c hc => by
    obtain ⟨hz, hTI, ⟨x, y, hTO⟩, h1, h2⟩ := st
    have e' : c = z ∨ c = TI ∨ c = TO ∨ c = i1 ∨ c = i2 := by simpa using hc
    rcases e' with q | q | q | q | q
    · subst q; exact ⟨_, hz, fun v q => nomatch q⟩
    · subst q; exact ⟨_, hTI, fun v q => nomatch q⟩
    · subst q; exact ⟨_, hTO, fun v q => nomatch q⟩
    · subst q; exact R1.iobj _ _ _ _ h1
    · subst q; exact R2.iobj _ _ _ _ h2
  keep := fun i h h' st kp => by
    obtain ⟨hz, hTI, ⟨x, y, hTO⟩, h1, h2⟩ := st
    exact ⟨kp z (by simp) _ hz, kp TI (by simp) _ hTI, ⟨x, y, kp TO (by simp) _ hTO⟩, R1.ikeep _ _ _ _ _ h1 fun o q => kp i1 (by simp) o q, R2.ikeep _ _ _ _ _ h2 fun o q => kp i2 (by simp) o q⟩
  item := by
    intro X e1 e2 e3 hc i pins s σ H E I hf st hg
    obtain ⟨xs, ys, x, y, hS1, hS2, hx, hy⟩ := hg
    obtain ⟨its1, rv1, hso1⟩ := R1.read X e1 e2 e3 pins σ H s a xs I hS1
    obtain ⟨its2, rv2, hso2⟩ := R2.read X e1 e2 e3 pins σ H s b ys I hS2
    subst e1 e2
    have l1 : xs.length = its1.length := Vals.length rv1
    have l2 : ys.length = its2.length := Vals.length rv2
    have hn : i < min its1.toArray.size its2.toArray.size := by
      have := (List.getElem?_eq_some_iff.mp hx).1
      have := (List.getElem?_eq_some_iff.mp hy).1
      rw [List.size_toArray, List.size_toArray]; omega
    have G := GoesN.zip2 (A := X.A) (elts := elts) (x1 := kk) (pos := tpos) D (R1.draws X.A.in1 (I.ok.hd hc) i1 a n1 its1.toArray) (R2.draws X.A.in1 (I.ok.hd hc) i2 b n2 its2.toArray)
    obtain ⟨hz, hTI, hTO, h1, h2⟩ := st
    refine G.goes i s _ E hn ⟨hz, hTI, hTO, ⟨h1, hso1⟩, ⟨h2, hso2⟩⟩ fun v h' tk hY st' hk htk => ?_
    obtain ⟨T, p, q, rfl, hT, hp, hq, hIs⟩ := hY
    obtain ⟨u1, hu1, ru1⟩ := rv1.get hx
    obtain ⟨u2, hu2, ru2⟩ := rv2.get hy
    have ep : p = u1 := by rw [List.getElem?_toArray, hu1] at hp; exact (Option.some.inj hp).symm
    have eq' : q = u2 := by rw [List.getElem?_toArray, hu2] at hq; exact (Option.some.inj hq).symm
    subst ep eq'
    have new : ObjOk X.prog X.w (upd H T (.tup [x, y])) h' T (.tup [x, y]) := ⟨by show 2 ≤ sizeLine; decide, [p, q], .cons ru1 (.cons ru2 .nil), hIs⟩
    have hk' : ∀ c o, c ∉ [z, TI, TO, i1, i2] → s.heap.get? c = some o → h'.get? c = some o := fun c o hcm q => hk c o (fun w => hcm (by
      have : c = z ∨ c = TO ∨ c = i1 ∨ c = i2 := by simpa using w
      rcases this with r | r | r | r <;> simp [r])) q
    have I1 : Inv X pins σ (upd H T (.tup [x, y])) { s with heap := h', toks := tk } := I.turnedNew (ch := [z, TI, TO, i1, i2]) hk' hf hT new
    refine ⟨.ref T, _, I1, rfl, ⟨T, x, y, rfl, I.hok.fresh hT, rfl, fun l hl => by rw [R1.inj X rfl rfl e3 pins σ H s a l xs I hl hS1]; exact hx, fun l hl => by rw [R2.inj X rfl rfl e3 pins σ H s b l ys I hl hS2]; exact hy⟩, ⟨st'.1, st'.2.1, st'.2.2.1, st'.2.2.2.1.1, st'.2.2.2.2.1⟩, fun c hcm => ?_⟩
    have hlt : c < s.heap.objs.size := by
      have e' : c = z ∨ c = TI ∨ c = TO ∨ c = i1 ∨ c = i2 := by simpa using hcm
      rcases e' with r | r | r | r | r
      · rw [r]; exact Heap.lt_size hz
      · rw [r]; exact Heap.lt_size hTI
      · obtain ⟨_, _, g⟩ := hTO
        rw [r]; exact Heap.lt_size g
      · obtain ⟨o, g, _⟩ := R1.iobj _ _ _ _ h1
        rw [r]; exact Heap.lt_size g
      · obtain ⟨o, g, _⟩ := R2.iobj _ _ _ _ h2
        rw [r]; exact Heap.lt_size g
    rw [upd_ne (Nat.ne_of_lt (Nat.lt_of_lt_of_le hlt hT))]
    exact (hf c hcm).1
  done := by
    intro X e1 e2 e3 hc i pins s σ H E I hf st hg
    obtain ⟨xs, ys, hS1, hS2, hx⟩ := hg
    obtain ⟨its1, rv1, hso1⟩ := R1.read X e1 e2 e3 pins σ H s a xs I hS1
    obtain ⟨its2, rv2, hso2⟩ := R2.read X e1 e2 e3 pins σ H s b ys I hS2
    subst e1 e2
    have l1 : xs.length = its1.length := Vals.length rv1
    have l2 : ys.length = its2.length := Vals.length rv2
    have hn : i = min its1.toArray.size its2.toArray.size := by
      rw [List.size_toArray, List.size_toArray]; omega
    have G := GoesN.zip2 (A := X.A) (elts := elts) (x1 := kk) (pos := tpos) D (R1.draws X.A.in1 (I.ok.hd hc) i1 a n1 its1.toArray) (R2.draws X.A.in1 (I.ok.hd hc) i2 b n2 its2.toArray)
    obtain ⟨hz, hTI, hTO, h1, h2⟩ := st
    subst hn
    refine G.stops s _ E ⟨hz, hTI, hTO, ⟨h1, hso1⟩, ⟨h2, hso2⟩⟩ fun h' tk hk htk => I.turnedL (ch := [z, TI, TO, i1, i2]) (fun c o hcm q => hk c o (fun w => hcm (by
      have : c = z ∨ c = TO ∨ c = i1 ∨ c = i2 := by simpa using w
      rcases this with r | r | r | r <;> simp [r])) q) hf
  self := fun A i s Q E st h => wpAny_pyIter_zip st.1 h
end
end FK

/-! FkD3: each operation by values is what the machine does. -/
namespace FK
open PySem L2 PyProof.Rows

section
variable {C : Ct} {F H : Hp} {x : V}
theorem view_non (w : View C F H x .none) : x = .non := by
  rcases w with w | ⟨_, _, _, _, e, _⟩
  · cases w; rfl
  · cases e
theorem view_bl {b : Bool} (w : View C F H x (.bool b)) : x = .bl b := by
  rcases w with w | ⟨_, _, _, _, e, _⟩
  · cases w; rfl
  · cases e
theorem view_int {i : Int} (w : View C F H x (.int i)) : x = .int i := by
  rcases w with w | ⟨_, _, _, _, e, _⟩
  · cases w; rfl
  · cases e
theorem view_str {z : Str} (w : View C F H x (.str z)) : x = .str z := by
  rcases w with w | ⟨_, _, _, _, e, _⟩
  · cases w; rfl
  · cases e
theorem view_tup {ds : List D} (w : View C F H x (.tuple ds)) : ∃ p xs, x = .ref p ∧ SqT C.K F p xs ∧ DpAll C.K F xs ds := by
  rcases w with w | ⟨_, _, _, _, e, _⟩
  · cases w with
    | tup q qs => exact ⟨_, _, rfl, q, qs⟩
  · cases e
theorem view_lst {ds : List D} (s : Same F H) (w : View C F H x (.list ds)) : ∃ p xs, x = .ref p ∧ SqL C.K H p xs ∧ DpAll C.K F xs ds := by
  rcases w with w | ⟨p, xs, es, rfl, e, h1, h2⟩
  · cases w with
    | lst q qs => exact ⟨_, _, rfl, sqL_mono s q, qs⟩
  · cases e
    exact ⟨p, xs, rfl, .inl (.inl h1), h2⟩
theorem view_dict {kvs : List (D × D)} (w : View C F H x (.dict kvs)) : False := by
  rcases w with w | ⟨_, _, _, _, e, _⟩
  · cases w
  · cases e
theorem view_dp {d : D} (s : Same F H) (w : View C F H x d) : Dp C.K H x d := by
  rcases w with w | ⟨p, xs, es, rfl, rfl, h1, h2⟩
  · exact dp_mono s _ _ w
  · exact .lst (.inl (.inl h1)) (dps_mono s _ _ h2)
end
theorem sz_line {n : Nat} (h : n ≤ 16777216) : n ≤ sizeLine := by rw [PySem.sizeLine_eq]; exact h

section
variable {C : Ct} {F H : Hp} {ρ : Rho} {σ : L2.St} {Q : VK} {K : PySem.W.Frag}
theorem kont_here {d : D} {x : V} (S : Sim C F ρ σ H) (q : Kont C F ρ σ (.fz d) Q) (h : Dp C.K F x d) : Q x H := q F H x (Same.refl F) S h
theorem kont_tup {ds : List D} {xs : List V} (S : Sim C F ρ σ H) (q : Kont C F ρ σ (.fz (.tuple ds)) Q) (h : DpAll C.K F xs ds) (z : ds.length ≤ sizeLine) : ∀ p, H p = none → Q (.ref p) (upd H p (.tup xs)) := fun p hp => by
  obtain ⟨S', r⟩ := S.tup hp h z
  exact q _ _ _ (same_new (S.free hp)) S' r
theorem kont_lst {ds : List D} {xs : List V} (S : Sim C F ρ σ H) (q : Kont C F ρ σ (.ow ds) Q) (h : DpAll C.K F xs ds) (z : ds.length ≤ sizeLine) : ∀ p, H p = none → Q (.ref p) (upd H p (.lst xs)) := fun p hp => by
  obtain ⟨S', r⟩ := S.ownRV hp h z
  exact q _ _ _ (Same.refl F) S' r

/-! ### arithmetic -/
def rAddA (K : PySem.W.Frag) : R2 := fun x y H Q => (rI0 (fun i j => .int (i + j)) x y H Q ∨ rCatA K x y H Q) ∨ rCatL K x y H Q
theorem op_addA {X : Cx} : OpR X (binaryOp .Add) (rAddA X.K) := (op_add.or op_catA).or op_catL
theorem os_add (hK : C.K = K) : OpS C (rAddA K) oAdd := by
  subst hK
  intro F ρ σ H x y d e v Q S w1 w2 h q
  unfold oAdd at h
  split at h
  · cases h
    rename_i a b
    exact .inl (.inl ⟨a, b, view_int w1, view_int w2, kont_here S q (.int _)⟩)
  · rename_i a b
    split at h
    · rename_i hz
      cases h
      obtain ⟨p, xs, rfl, h1, h2⟩ := view_tup w1
      obtain ⟨p2, ys, rfl, h3, h4⟩ := view_tup w2
      have hz' := sz_line hz
      have l1 := dps_length h2
      have l2 := dps_length h4
      refine .inl (.inr ⟨p, p2, xs, ys, rfl, rfl, sqT_mono S.sub h1, sqT_mono S.sub h3, by omega, fun e => ?_, fun _ e => ?_, fun _ _ => kont_tup S q (dps_append h2 h4) (by rw [List.length_append]; exact hz')⟩)
      · subst e
        have : a = [] := List.eq_nil_of_length_eq_zero (by simpa using l1.symm)
        subst this
        exact kont_here S q (.tup h3 h4)
      · subst e
        have : b = [] := List.eq_nil_of_length_eq_zero (by simpa using l2.symm)
        subst this
        exact kont_here S q (by rw [List.append_nil]; exact .tup h1 h2)
    · cases h
  · rename_i a b
    split at h
    · rename_i hz
      cases h
      obtain ⟨p, xs, rfl, h1, h2⟩ := view_lst S.sub w1
      obtain ⟨p2, ys, rfl, h3, h4⟩ := view_lst S.sub w2
      have hz' := sz_line hz
      have l1 := dps_length h2
      have l2 := dps_length h4
      exact .inr ⟨p, p2, xs, ys, rfl, rfl, h1, h3, by omega, kont_lst S q (dps_append h2 h4) (by rw [List.length_append]; exact hz')⟩
    · cases h
  · cases h
theorem os_sub : OpS C (rI0 fun i j => .int (i - j)) oSub := by
  intro F ρ σ H x y d e v Q S w1 w2 h q
  unfold oSub at h
  split at h
  · cases h; exact ⟨_, _, view_int w1, view_int w2, kont_here S q (.int _)⟩
  · cases h
theorem intIn_iff {i : Int} : intIn i = true ↔ -(2 ^ 64) < i ∧ i < 2 ^ 64 := by unfold intIn; rw [decide_eq_true_iff]
theorem small_iff {i : Int} : small i = true ↔ -1000000 ≤ i ∧ i ≤ 1000000 := by unfold small; rw [decide_eq_true_iff]
def rMulA (K : PySem.W.Frag) : R2 := fun x y H Q => (rI CMul (fun i j => .int (i * j)) x y H Q ∨ rRepTA K x y H Q) ∨ rRepL K x y H Q
theorem op_mulA {X : Cx} : OpR X (binaryOp .Mult) (rMulA X.K) := (op_mul.or op_repTA).or op_repL
theorem rep_len {α : Type} (xs : List α) (n : Nat) : (List.replicate n xs).flatten.length = n * xs.length := PyProof.Rows.lm_len_rep_flat ..
theorem os_mul (hK : C.K = K) : OpS C (rMulA K) oMul := by
  subst hK
  intro F ρ σ H x y d e v Q S w1 w2 h q
  unfold oMul at h
  split at h
  · split at h
    · rename_i a b hc
      cases h
      refine .inl (.inl ⟨a, b, view_int w1, view_int w2, ?_, kont_here S q (.int _)⟩)
      rw [Bool.or_eq_true, intIn_iff, intIn_iff] at hc
      exact hc
    · cases h
  · rename_i a k
    split at h
    · rename_i hc
      cases h
      obtain ⟨p, xs, rfl, h1, h2⟩ := view_tup w1
      have l1 := dps_length h2
      refine .inl (.inr ⟨p, k, xs, rfl, view_int w2, sqT_mono S.sub h1, hc.1, hc.2.1, by omega, fun z => ?_, fun z1 z2 => kont_tup S q (dps_rep h2 _) ?_⟩)
      · refine kont_here S q ?_
        rcases z with z | z
        · subst z
          have : a = [] := List.eq_nil_of_length_eq_zero (by simpa using l1.symm)
          subst this
          have : (List.replicate k.toNat ([] : List D)).flatten = [] := by
            apply List.eq_nil_of_length_eq_zero
            rw [rep_len]; simp
          rw [this]
          exact .tup h1 h2
        · subst z
          have : (List.replicate (1 : Int).toNat a).flatten = a := by simp [show (1 : Int).toNat = 1 from rfl]
          rw [this]
          exact .tup h1 h2
      · rw [rep_len]
        refine sz_line ?_
        have a1 : k.toNat * a.length ≤ 1000 * 1000 := Nat.mul_le_mul (by omega) hc.2.2
        omega
    · cases h
  · rename_i a k
    split at h
    · rename_i hc
      cases h
      rw [Bool.and_eq_true, small_iff, decide_eq_true_iff] at hc
      obtain ⟨p, xs, rfl, h1, h2⟩ := view_lst S.sub w1
      have l1 := dps_length h2
      refine .inr ⟨p, k, xs, rfl, view_int w2, h1, hc.1.1, hc.1.2, by rw [l1]; exact sz_line hc.2, kont_lst S q (dps_rep h2 _) ?_⟩
      rw [rep_len, Nat.mul_comm]
      exact sz_line hc.2
    · cases h
  · cases h
theorem os_mod : OpS C (rI (fun _ j => 0 < j) fun i j => .int (i % j)) oMod := by
  intro F ρ σ H x y d e v Q S w1 w2 h q
  unfold oMod at h
  split at h
  · split at h
    · rename_i hc
      cases h; exact ⟨_, _, view_int w1, view_int w2, hc, kont_here S q (.int _)⟩
    · cases h
  · cases h
theorem os_fdiv : OpS C (rI CDiv fun i j => .int (i / j)) oFdiv := by
  intro F ρ σ H x y d e v Q S w1 w2 h q
  unfold oFdiv at h
  split at h
  · split at h
    · rename_i hc
      cases h; exact ⟨_, _, view_int w1, view_int w2, hc, kont_here S q (.int _)⟩
    · cases h
  · cases h
theorem os_pow : OpS C (rI CPow fun i j => .int (i ^ j.toNat)) oPow := by
  intro F ρ σ H x y d e v Q S w1 w2 h q
  unfold oPow at h
  split at h
  · split at h
    · rename_i a b hc
      cases h
      have h3 := intIn_iff.mp hc.2.2
      exact ⟨_, _, view_int w1, view_int w2, ⟨hc.1, by omega, by omega⟩, kont_here S q (.int _)⟩
    · cases h
  · cases h
theorem us_neg : UnS C (rU fun i => .int (-i)) oNeg := by
  intro F ρ σ H x d v Q S w1 h q
  unfold oNeg at h
  split at h
  · cases h; exact ⟨_, view_int w1, kont_here S q (.int _)⟩
  · cases h

/-! ### comparisons -/
theorem os_cmp {p : Int → Int → Bool} : OpS C (rI0 fun i j => .bl (p i j)) (oCmp p) := by
  intro F ρ σ H x y d e v Q S w1 w2 h q
  unfold oCmp at h
  split at h
  · cases h; exact ⟨_, _, view_int w1, view_int w2, kont_here S q (.bl _)⟩
  · cases h
theorem eqD_spec {a b : D} {k : Bool} (h : eqD a b = some k) : min a.depth b.depth ≤ 64 ∧ PyData.eqv a b = k := by
  unfold eqD at h
  split at h
  · cases h
    rename_i i j
    refine ⟨by simp [PyData.depth], ?_⟩
    show (i == j) = decide (i = j)
    exact Bool.beq_eq_decide_eq i j
  · split at h
    · rename_i hc
      cases h
      exact ⟨hc, rfl⟩
    · cases h
mutual
theorem plain_dp {K : PySem.W.Frag} {H : Hp} : ∀ (d : D) (v : V), Dp K H v d → d.plain = true
  | .none, _, _ => rfl
  | .bool _, _, _ => rfl
  | .int _, _, _ => rfl
  | .str _, _, _ => rfl
  | .list ds, _, h => by
    cases h with
    | lst _ q => exact plain_dps ds _ q
  | .tuple ds, _, h => by
    cases h with
    | tup _ q => exact plain_dps ds _ q
  | .dict _, _, h => by cases h
theorem plain_dps {K : PySem.W.Frag} {H : Hp} : ∀ (ds : List D) (vs : List V), DpAll K H vs ds → PyData.plainAll ds = true
  | [], _, _ => rfl
  | d :: ds, _, h => by
    cases h with
    | cons q qs =>
      show (d.plain && PyData.plainAll ds) = true
      rw [plain_dp d _ q, plain_dps ds _ qs]
      rfl
end
def rEqP (K : PySem.W.Frag) : R2 := fun x y H Q => ∃ d e, Dp K H x d ∧ Dp K H y e ∧ min d.depth e.depth ≤ 64 ∧ Q (.bl (PyData.eqv d e)) H
def rNeP (K : PySem.W.Frag) : R2 := fun x y H Q => ∃ d e, Dp K H x d ∧ Dp K H y e ∧ min d.depth e.depth ≤ 64 ∧ Q (.bl (!PyData.eqv d e)) H
theorem op_eqP {X : Cx} (hu : X.A.units + 64 < cLine) : OpR X (compareOp .Eq) (rEqP X.K) := by
  intro pins s σ H x y v u Q I rx ry h
  obtain ⟨d, e, hd, he, sm, q⟩ := h
  obtain ⟨as, r1⟩ := Dp.reads I d x v hd rx
  obtain ⟨bs, r2⟩ := Dp.reads I e y u he ry
  exact SeqAt.eq_plain r1 r2 (plain_dp _ _ hd) (plain_dp _ _ he) (by omega) ⟨.bl _, H, I, rfl, q⟩
theorem op_neP {X : Cx} (hu : X.A.units + 64 < cLine) : OpR X (compareOp .NotEq) (rNeP X.K) := by
  intro pins s σ H x y v u Q I rx ry h
  obtain ⟨d, e, hd, he, sm, q⟩ := h
  obtain ⟨as, r1⟩ := Dp.reads I d x v hd rx
  obtain ⟨bs, r2⟩ := Dp.reads I e y u he ry
  exact SeqAt.ne_plain r1 r2 (plain_dp _ _ hd) (plain_dp _ _ he) (by omega) ⟨.bl _, H, I, rfl, q⟩
theorem os_eq (hK : C.K = K) : OpS C (rEqP K) oEq := by
  subst hK
  intro F ρ σ H x y d e v Q S w1 w2 h q
  unfold oEq at h
  obtain ⟨k, h1, h2⟩ := Option.map_eq_some_iff.mp h
  cases h2
  obtain ⟨s1, e1⟩ := eqD_spec h1
  exact ⟨d, e, view_dp S.sub w1, view_dp S.sub w2, s1, by rw [e1]; exact kont_here S q (.bl _)⟩
theorem os_ne (hK : C.K = K) : OpS C (rNeP K) oNe := by
  subst hK
  intro F ρ σ H x y d e v Q S w1 w2 h q
  unfold oNe at h
  obtain ⟨k, h1, h2⟩ := Option.map_eq_some_iff.mp h
  cases h2
  obtain ⟨s1, e1⟩ := eqD_spec h1
  exact ⟨d, e, view_dp S.sub w1, view_dp S.sub w2, s1, by rw [e1]; exact kont_here S q (.bl _)⟩
theorem non_iff {d : D} {x : V} (w : View C F H x d) : decide (x = .non) = isNon d := by
  rcases w with w | ⟨p, xs, es, rfl, rfl, h1, h2⟩
  · cases w <;> first | rfl | exact decide_eq_false (fun q => nomatch q)
  · exact decide_eq_false (fun q => nomatch q)
theorem os_is : OpS C (fun x y H Q => y = .non ∧ Q (.bl (decide (x = .non))) H) oIs := by
  intro F ρ σ H x y d e v Q S w1 w2 h q
  unfold oIs at h
  split at h
  · cases h
    exact ⟨view_non w2, by rw [non_iff w1]; exact kont_here S q (.bl _)⟩
  · cases h
theorem os_isnot : OpS C (fun x y H Q => y = .non ∧ Q (.bl (!decide (x = .non))) H) oIsNot := by
  intro F ρ σ H x y d e v Q S w1 w2 h q
  unfold oIsNot at h
  split at h
  · cases h
    exact ⟨view_non w2, by rw [non_iff w1]; exact kont_here S q (.bl _)⟩
  · cases h

/-! ### subscripts -/
theorem ixN_lt {n : Nat} {i : Int} {j : Nat} (h : ixN n i = some j) : j < n := (ixN_seq h).2.1
theorem atI_of {xs : List V} {ds : List D} {i : Int} {d : D} (h : DpAll C.K F xs ds) (e : (ixD ds.length i).bind (ds[·]?) = some d) : ∃ v, atI xs i = some v ∧ Dp C.K F v d := by
  obtain ⟨j, h1, h2⟩ := Option.bind_eq_some_iff.mp e
  obtain ⟨v, h3, h4⟩ := dps_get h h2
  refine ⟨v, ?_, h4⟩
  unfold atI
  rw [dps_length h]
  unfold ixD at h1
  rw [h1]
  exact h3
def rIxA (K : PySem.W.Frag) : R2 := fun x y H Q => rIxL K x y H Q ∨ rIxT K x y H Q
theorem ix_A {X : Cx} : IxR X (rIxA X.K) := ix_list.or ix_tup
theorem os_ix (hK : C.K = K) : OpS C (rIxA K) oIx := by
  subst hK
  intro F ρ σ H x y d e v Q S w1 w2 h q
  unfold oIx at h
  split at h
  · obtain ⟨k, h1, h2⟩ := Option.map_eq_some_iff.mp h
    cases h2
    obtain ⟨p, xs, rfl, h3, h4⟩ := view_lst S.sub w1
    obtain ⟨u, h5, h6⟩ := atI_of h4 h1
    exact .inl ⟨p, xs, _, u, rfl, view_int w2, h3, h5, kont_here S q h6⟩
  · obtain ⟨k, h1, h2⟩ := Option.map_eq_some_iff.mp h
    cases h2
    obtain ⟨p, xs, rfl, h3, h4⟩ := view_tup w1
    obtain ⟨u, h5, h6⟩ := atI_of h4 h1
    exact .inr ⟨p, xs, _, u, rfl, view_int w2, sqT_mono S.sub h3, h5, kont_here S q h6⟩
  · cases h
theorem dps_cut {xs : List V} {ds : List D} (h : DpAll C.K F xs ds) (lo hi : Option Int) : DpAll C.K F (cutV xs lo hi) (cutD ds lo hi) := by
  unfold cutV cutD
  rw [dps_length h]
  exact dps_take _ (dps_drop _ h)
theorem cutD_length (ds : List D) (lo hi : Option Int) : (cutD ds lo hi).length ≤ ds.length := by
  unfold cutD
  rw [List.length_take, List.length_drop]
  omega
def rSlAll (K : PySem.W.Frag) : V → Option Int → Option Int → Hp → VK → Prop := fun x lo hi H Q => rSlL K x lo hi H Q ∨ rSlA K x lo hi H Q
theorem sl_All {X : Cx} : SlR X (rSlAll X.K) := sl_list.or sl_tupA
theorem sl_go (hK : C.K = K) {d : D} {lo hi : Option Int} {v : Val} {x : V} (S : Sim C F ρ σ H) (w : View C F H x d) (h : oSl d lo hi = some v) (q : Kont C F ρ σ v Q) : rSlAll K x lo hi H Q := by
  subst hK
  unfold oSl at h
  split at h
  · cases h
    obtain ⟨p, xs, rfl, h3, h4⟩ := view_lst S.sub w
    refine .inl ⟨p, xs, rfl, h3, kont_lst S q (dps_cut h4 _ _) (Nat.le_trans (cutD_length _ _ _) ?_)⟩
    rw [← dps_length h4]
    exact sqL_sz S.sz h3
  · cases h
    rename_i ds
    obtain ⟨p, xs, rfl, h3, h4⟩ := view_tup w
    have hz : ds.length ≤ sizeLine := by
      rw [← dps_length h4]
      exact sqT_sz S.sz (sqT_mono S.sub h3)
    refine .inr ⟨p, xs, rfl, sqT_mono S.sub h3, fun e => ?_, fun _ => kont_tup S q (dps_cut h4 _ _) (Nat.le_trans (cutD_length _ _ _) hz)⟩
    refine kont_here S q ?_
    have : cutD ds lo hi = ds := by
      unfold cutD
      rw [dps_length h4] at e
      rw [e.1, e.2]
      simp
    rw [this]
    exact .tup h3 h4
  · cases h

/-! ### built-ins -/
theorem views1 {xs : List V} {d : D} (w : Views C F H xs [d]) : ∃ x, xs = [x] ∧ View C F H x d := by
  cases w with
  | cons h t => cases t; exact ⟨_, rfl, h⟩
theorem views2 {xs : List V} {d e : D} (w : Views C F H xs [d, e]) : ∃ x y, xs = [x, y] ∧ View C F H x d ∧ View C F H y e := by
  cases w with
  | cons h t =>
    obtain ⟨y, rfl, h2⟩ := views1 t
    exact ⟨_, y, rfl, h, h2⟩
theorem views3 {xs : List V} {d e f : D} (w : Views C F H xs [d, e, f]) : ∃ x y z, xs = [x, y, z] ∧ View C F H x d ∧ View C F H y e ∧ View C F H z f := by
  cases w with
  | cons h t =>
    obtain ⟨y, z, rfl, h2, h3⟩ := views2 t
    exact ⟨_, y, z, rfl, h, h2, h3⟩
theorem ca_len (hK : C.K = K) : CaS C (fun xs H Q => ∃ p ys, xs = [.ref p] ∧ (SqL K H p ys ∨ SqT K H p ys) ∧ Q (.int ys.length) H) oLen := by
  subst hK
  intro F ρ σ H xs ds v Q S w h q
  unfold oLen at h
  split at h
  · cases h
    obtain ⟨x, rfl, wv⟩ := views1 w
    obtain ⟨p, ys, rfl, h3, h4⟩ := view_lst S.sub wv
    exact ⟨p, ys, rfl, .inl h3, by rw [dps_length h4]; exact kont_here S q (.int _)⟩
  · cases h
    obtain ⟨x, rfl, wv⟩ := views1 w
    obtain ⟨p, ys, rfl, h3, h4⟩ := view_tup wv
    exact ⟨p, ys, rfl, .inr (sqT_mono S.sub h3), by rw [dps_length h4]; exact kont_here S q (.int _)⟩
  · cases h
theorem ca_int : CaS C (fun xs H Q => (∃ i, xs = [.int i] ∧ Q (.int i) H) ∨ ∃ k, xs = [.bl k] ∧ Q (.int (if k then 1 else 0)) H) oInt := by
  intro F ρ σ H xs ds v Q S w h q
  unfold oInt at h
  split at h
  · cases h
    obtain ⟨x, rfl, wv⟩ := views1 w
    rw [view_int wv]
    exact .inl ⟨_, rfl, kont_here S q (.int _)⟩
  · cases h
    obtain ⟨x, rfl, wv⟩ := views1 w
    rw [view_bl wv]
    exact .inr ⟨_, rfl, kont_here S q (.int _)⟩
  · cases h
theorem ca_abs : CaS C (fun xs H Q => ∃ i, xs = [.int i] ∧ Q (.int (if i < 0 then -i else i)) H) oAbs := by
  intro F ρ σ H xs ds v Q S w h q
  unfold oAbs at h
  split at h
  · cases h
    obtain ⟨x, rfl, wv⟩ := views1 w
    rw [view_int wv]
    exact ⟨_, rfl, kont_here S q (.int _)⟩
  · cases h
def rMax23 : List V → Hp → VK → Prop := fun xs H Q => (∃ i j, xs = [.int i, .int j] ∧ Q (.int (if j > i then j else i)) H) ∨ ∃ i j k, xs = [.int i, .int j, .int k] ∧ Q (.int (max (max i j) k)) H
def rMin23 : List V → Hp → VK → Prop := fun xs H Q => (∃ i j, xs = [.int i, .int j] ∧ Q (.int (if j < i then j else i)) H) ∨ ∃ i j k, xs = [.int i, .int j, .int k] ∧ Q (.int (min (min i j) k)) H
theorem cr_max23 {X : Cx} (hc : X.calm = true) : CallR X (.builtin "max") rMax23 := (call_max2 hc).or (cr_max3 hc)
theorem cr_min23 {X : Cx} (hc : X.calm = true) : CallR X (.builtin "min") rMin23 := (call_min2 hc).or (cr_min3 hc)
theorem ca_max : CaS C rMax23 oMax := by
  intro F ρ σ H xs ds v Q S w h q
  unfold oMax at h
  split at h
  · cases h
    rename_i i j
    obtain ⟨x, y, rfl, w1, w2⟩ := views2 w
    rw [view_int w1, view_int w2]
    refine .inl ⟨i, j, rfl, ?_⟩
    have : (if j > i then j else i) = max i j := by split <;> omega
    rw [this]
    exact kont_here S q (.int _)
  · cases h
    rename_i i j k
    obtain ⟨x, y, z, rfl, w1, w2, w3⟩ := views3 w
    rw [view_int w1, view_int w2, view_int w3]
    exact .inr ⟨i, j, k, rfl, kont_here S q (.int _)⟩
  · cases h
theorem ca_min : CaS C rMin23 oMin := by
  intro F ρ σ H xs ds v Q S w h q
  unfold oMin at h
  split at h
  · cases h
    rename_i i j
    obtain ⟨x, y, rfl, w1, w2⟩ := views2 w
    rw [view_int w1, view_int w2]
    refine .inl ⟨i, j, rfl, ?_⟩
    have : (if j < i then j else i) = min i j := by split <;> omega
    rw [this]
    exact kont_here S q (.int _)
  · cases h
    rename_i i j k
    obtain ⟨x, y, z, rfl, w1, w2, w3⟩ := views3 w
    rw [view_int w1, view_int w2, view_int w3]
    exact .inr ⟨i, j, k, rfl, kont_here S q (.int _)⟩
  · cases h
theorem ca_tuple (hK : C.K = K) : CaS C (fun xs H Q => ∃ p ys, xs = [.ref p] ∧ ((SqL K H p ys ∧ ∀ l, H l = none → Q (.ref l) (upd H l (.tup ys))) ∨ (SqT K H p ys ∧ Q (.ref p) H))) oTuple := by
  subst hK
  intro F ρ σ H xs ds v Q S w h q
  unfold oTuple at h
  split at h
  · cases h
    obtain ⟨x, rfl, wv⟩ := views1 w
    obtain ⟨p, ys, rfl, h3, h4⟩ := view_lst S.sub wv
    exact ⟨p, ys, rfl, .inl ⟨h3, kont_tup S q h4 (by rw [← dps_length h4]; exact sqL_sz S.sz h3)⟩⟩
  · cases h
    obtain ⟨x, rfl, wv⟩ := views1 w
    obtain ⟨p, ys, rfl, h3, h4⟩ := view_tup wv
    exact ⟨p, ys, rfl, .inr ⟨sqT_mono S.sub h3, kont_here S q (.tup h3 h4)⟩⟩
  · cases h
theorem ca_list (hK : C.K = K) : CaS C (fun xs H Q => ∃ p ys, xs = [.ref p] ∧ (SqL K H p ys ∨ SqT K H p ys) ∧ ∀ l, H l = none → Q (.ref l) (upd H l (.lst ys))) oList := by
  subst hK
  intro F ρ σ H xs ds v Q S w h q
  unfold oList at h
  split at h
  · cases h
    obtain ⟨x, rfl, wv⟩ := views1 w
    obtain ⟨p, ys, rfl, h3, h4⟩ := view_lst S.sub wv
    exact ⟨p, ys, rfl, .inl h3, kont_lst S q h4 (by rw [← dps_length h4]; exact sqL_sz S.sz h3)⟩
  · cases h
    obtain ⟨x, rfl, wv⟩ := views1 w
    obtain ⟨p, ys, rfl, h3, h4⟩ := view_tup wv
    exact ⟨p, ys, rfl, .inr (sqT_mono S.sub h3), kont_lst S q h4 (by rw [← dps_length h4]; exact sqT_sz S.sz (sqT_mono S.sub h3))⟩
  · cases h
theorem bools_of : ∀ {ds : List D} {xs : List V} {bs : List Bool}, DpAll C.K F xs ds → boolsOf ds = some bs → xs = bs.map V.bl
  | [], _, _, h, e => by cases h; cases e; rfl
  | .bool b :: ds, _, _, h, e => by
    cases h with
    | cons q qs =>
      cases q
      obtain ⟨bs, h1, h2⟩ := Option.map_eq_some_iff.mp (show (boolsOf ds).map (b :: ·) = _ from e)
      subst h2
      rw [bools_of qs h1]; rfl
  | .none :: _, _, _, _, e => nomatch e
  | .int _ :: _, _, _, _, e => nomatch e
  | .str _ :: _, _, _, _, e => nomatch e
  | .list _ :: _, _, _, _, e => nomatch e
  | .tuple _ :: _, _, _, _, e => nomatch e
  | .dict _ :: _, _, _, _, e => nomatch e
theorem ca_any (hK : C.K = K) : CaS C (rAny K) oAny := by
  subst hK
  intro F ρ σ H xs ds v Q S w h q
  unfold oAny at h
  split at h
  · obtain ⟨bs, h1, h2⟩ := Option.map_eq_some_iff.mp h
    cases h2
    obtain ⟨x, rfl, wv⟩ := views1 w
    obtain ⟨p, ys, rfl, h3, h4⟩ := view_lst S.sub wv
    have e := bools_of h4 h1
    subst e
    exact ⟨p, bs, rfl, h3, kont_here S q (.bl _)⟩
  · cases h
theorem ca_all (hK : C.K = K) : CaS C (rAll K) oAll := by
  subst hK
  intro F ρ σ H xs ds v Q S w h q
  unfold oAll at h
  split at h
  · obtain ⟨bs, h1, h2⟩ := Option.map_eq_some_iff.mp h
    cases h2
    obtain ⟨x, rfl, wv⟩ := views1 w
    obtain ⟨p, ys, rfl, h3, h4⟩ := view_lst S.sub wv
    have e := bools_of h4 h1
    subst e
    exact ⟨p, bs, rfl, h3, kont_here S q (.bl _)⟩
  · cases h
theorem ca_repr (hK : C.K = K) : CaS C (rReprD K) oRepr := by
  subst hK
  intro F ρ σ H xs ds v Q S w h q
  unfold oRepr at h
  split at h
  · split at h
    · rename_i d hc
      cases h
      obtain ⟨x, rfl, wv⟩ := views1 w
      unfold reprOk at hc
      rw [Bool.and_eq_true, Bool.and_eq_true, decide_eq_true_iff, decide_eq_true_iff] at hc
      exact ⟨x, d, rfl, view_dp S.sub wv, hc.1.1, sz_line hc.1.2, hc.2, kont_here S q (.str _)⟩
    · cases h
  · cases h
end
end FK

/-! FkD4: what a for and a comprehension walk. -/
namespace FK
open PySem L2 PyProof.Rows

theorem meets_enum1 {v : Value} {o : Obj} {G : Heap → Prop} (B : Begins v o G) :
    Meets (Builtin.«enumerate.__new__» ⟨[.type "enumerate", v], []⟩) (fun _ R s => G s.heap ∧
      R (.ok (.ret (.ref (s.heap.push o).objs.size))) { s with heap := (s.heap.push o).push { cls := .type "enumerate", data := .fields #[.none, .bool false, .ref s.heap.objs.size, rawInt 0, .none, .none] } }) :=
  .of_wp fun prog w A R s h => by
    obtain ⟨hp, g, dr, tk, os⟩ := s
    obtain ⟨h1, h2⟩ := h
    have hsub := sub_enumerate
    have st : ∀ {A' : Around} {E : Value → Shared → Prop} {Q : Value → Shared → Prop}, Q (.ref hp.objs.size) ⟨hp.push o, g, dr, tk, os⟩ → wpAny (model prog w) A' (pyIter v) Q E ⟨hp, g, dr, tk, os⟩ :=
      fun q => B.iter prog w _ _ ⟨hp, g, dr, tk, os⟩ _ h1 q
    wp_walk using st
    refine wpAny_stack_any fun fr => wpAny_pure ?_
    split
    · rename_i c _ _ _ _ _
      cases (c == Value.type "enumerate")
      · wp_walk using st
        exact ⟨_, rfl, h2⟩
      · wp_walk using st
        exact ⟨_, rfl, h2⟩
    · wp_walk using st
      exact ⟨_, rfl, h2⟩
theorem call_enum1 {prog : Program} {w : World} {A : Around} {E : Value → Shared → Prop} {s : Shared} {v : Value} {o : Obj} {G : Heap → Prop} {Q : Value → Shared → Prop} (B : Begins v o G) (h1 : G s.heap)
    (h : ∀ h', IsEnum h' (s.heap.objs.size + 1) s.heap.objs.size 0 .none → h'.get? s.heap.objs.size = some o → (∀ b o, s.heap.get? b = some o → h'.get? b = some o) → Q (.ref (s.heap.objs.size + 1)) { s with heap := h' }) :
    wpAny (model prog w) A (call (.type "enumerate") [v]) Q E s := by
  have hz : (s.heap.push o).objs.size = s.heap.objs.size + 1 := Heap.size_push ..
  refine callType_new PySem.F.called_enumerate (by decide) (PySem.F.typeCall_enumerate_1 _) (PySem.F.newCall_enumerate_1 _) (fun obj => PySem.F.args_object_init_2 obj _) PySem.F.entry_enumerate_new (meets_enum1 B) ⟨h1, ?_⟩
  show _ ∧ _
  rw [hz]
  have he : IsEnum ((s.heap.push o).push { cls := .type "enumerate", data := .fields #[.none, .bool false, .ref s.heap.objs.size, rawInt 0, .none, .none] }) (s.heap.objs.size + 1) s.heap.objs.size 0 .none := by
    have e := Heap.get?_push_size (s.heap.push o) (o := { cls := .type "enumerate", data := .fields #[.none, .bool false, .ref s.heap.objs.size, rawInt 0, .none, .none] }) rfl
    rw [hz] at e
    exact e
  exact ⟨⟨_, he, rfl⟩, h _ he (Heap.get?_push_of_some _ (Heap.get?_push_size _ B.free)) fun b u x => Heap.get?_push_of_some _ (Heap.get?_push_of_some _ x)⟩

/-- what a turn gives: an item as it lies; a new tuple of such -/
def Yld (C : Ct) (F H : Hp) (d : D) (x : V) (H' : Hp) : Prop :=
  (H' = H ∧ Dp C.K F x d) ∨ ∃ T xs ds, x = .ref T ∧ H T = none ∧ H' = upd H T (.tup xs) ∧ d = .tuple ds ∧ DpAll C.K F xs ds ∧ ds.length ≤ sizeLine
structure WalkD (C : Ct) (F : Hp) (J : It) (ds : List D) : Prop where
  goes : ∀ i H, i < ds.length → Same F H → J.go i H
  stops : ∀ H, Same F H → J.stop ds.length H
  yields : ∀ i H x H' d, ds[i]? = some d → Same F H → J.yld i H x H' → Yld C F H d x H'
  sz : ds.length ≤ sizeLine
def rdI (C : Ct) (W : Wish) (it : M (List D)) : TI := fun σ H R => ∃ F ρ, Sim C F ρ σ H ∧ Pst W F σ (it ρ) fun ds ρ' => ∀ F' H' J, Same F F' → Sim C F' ρ' σ H' → WalkD C F' J ds → R J H'

section
variable {C : Ct} {F : Hp} {a : Addr} {xs : List V} {ds : List D}
theorem walkD_list (z : xs.length ≤ sizeLine) (h : SqL C.K F a xs) (hd : DpAll C.K F xs ds) : WalkD C F (Itl C.K a) ds where
  goes := fun i H hi s => by
    rw [← dps_length hd] at hi
    exact ⟨xs, xs[i], sqL_mono s h, by simp [hi]⟩
  stops := fun H s => ⟨xs, sqL_mono s h, by rw [dps_length hd]; exact Nat.le_refl _⟩
  yields := fun i H x H' d e s y => by
    obtain ⟨v, h1, h2⟩ := dps_get hd e
    have h3 := y.2 xs (sqL_mono s h)
    rw [h1] at h3
    cases h3
    exact .inl ⟨y.1, h2⟩
  sz := by rw [← dps_length hd]; exact z
theorem walkD_tup (z : xs.length ≤ sizeLine) (h : SqT C.K F a xs) (hd : DpAll C.K F xs ds) : WalkD C F (Itt C.K a) ds where
  goes := fun i H hi s => by
    rw [← dps_length hd] at hi
    exact ⟨xs, xs[i], sqT_mono s h, by simp [hi]⟩
  stops := fun H s => ⟨xs, sqT_mono s h, by rw [dps_length hd]; exact Nat.le_refl _⟩
  yields := fun i H x H' d e s y => by
    obtain ⟨v, h1, h2⟩ := dps_get hd e
    have h3 := y.2 xs (sqT_mono s h)
    rw [h1] at h3
    cases h3
    exact .inl ⟨y.1, h2⟩
  sz := by rw [← dps_length hd]; exact z
theorem rng_get (a c : Int) (n i : Nat) (h : i < n) : (rng a c n)[i]? = some (.int (a + (i : Int) * c)) := by
  unfold rng
  rw [List.getElem?_map, List.getElem?_range h]
  rfl
theorem rng_len (a c : Int) (n : Nat) : (rng a c n).length = n := by unfold rng; simp
theorem walkD_rng (lo : Int) (n : Nat) (z : n ≤ 16777216) : WalkD C F (Itr lo n) (rng lo 1 n) where
  goes := fun i H hi s => by rw [rng_len] at hi; exact hi
  stops := fun H s => by show n ≤ _; rw [rng_len]; exact Nat.le_refl _
  yields := fun i H x H' d e s y => by
    have hi : i < n := by
      have := (List.getElem?_eq_some_iff.mp e).1
      rw [rng_len] at this; exact this
    rw [rng_get _ _ _ _ hi] at e
    cases e
    obtain ⟨y1, y2⟩ := y
    subst y2
    rw [Int.mul_one]
    exact .inl ⟨y1, .int _⟩
  sz := by rw [rng_len]; exact sz_line z
theorem walkD_rngC (lo c : Int) (n : Nat) (z : n ≤ 16777216) : WalkD C F (Itc lo c n) (rng lo c n) where
  goes := fun i H hi s => by rw [rng_len] at hi; exact hi
  stops := fun H s => by show n ≤ _; rw [rng_len]; exact Nat.le_refl _
  yields := fun i H x H' d e s y => by
    have hi : i < n := by
      have := (List.getElem?_eq_some_iff.mp e).1
      rw [rng_len] at this; exact this
    rw [rng_get _ _ _ _ hi] at e
    cases e
    obtain ⟨y1, y2⟩ := y
    subst y2
    exact .inl ⟨y1, .int _⟩
  sz := by rw [rng_len]; exact sz_line z
theorem enumL_get : ∀ (ds : List D) (k : Int) (i : Nat), (enumL k ds)[i]? = ds[i]?.map fun d => .tuple [.int (k + (i : Nat)), d]
  | [], k, i => by simp [enumL]
  | d :: ds, k, 0 => by simp [enumL]
  | d :: ds, k, i + 1 => by
    simp only [enumL, List.getElem?_cons_succ]
    rw [enumL_get ds (k + 1) i]
    have : k + 1 + (i : Int) = k + ((i + 1 : Nat) : Int) := by omega
    rw [this]
theorem enumL_len : ∀ (ds : List D) (k : Int), (enumL k ds).length = ds.length
  | [], k => rfl
  | d :: ds, k => by simp [enumL, enumL_len ds]
theorem zipL_get : ∀ (xs ys : List D) (i : Nat) (d : D), (zipL xs ys)[i]? = some d → ∃ x y, xs[i]? = some x ∧ ys[i]? = some y ∧ d = .tuple [x, y]
  | x :: xs, y :: ys, 0, d, h => by simp [zipL] at h; exact ⟨x, y, rfl, rfl, h.symm⟩
  | x :: xs, y :: ys, i + 1, d, h => by
    obtain ⟨a, b, h1, h2, h3⟩ := zipL_get xs ys i d (by simpa [zipL] using h)
    exact ⟨a, b, by simpa using h1, by simpa using h2, h3⟩
  | [], _, i, d, h => by simp [zipL] at h
  | _ :: _, [], i, d, h => by simp [zipL] at h
theorem zipL_len : ∀ (xs ys : List D), (zipL xs ys).length = min xs.length ys.length
  | x :: xs, y :: ys => by simp [zipL, zipL_len xs ys]
  | [], ys => by simp [zipL]
  | _ :: _, [] => by simp [zipL]
theorem walkD_E {S : Hp → Addr → List V → Prop} (mono : ∀ H H' b ys, Same H H' → S H b ys → S H' b ys) (z : xs.length ≤ sizeLine) (h : S F a xs) (hd : DpAll C.K F xs ds) : WalkD C F (ItE S a 0) (enumL 0 ds) where
  goes := fun i H hi s => by
    rw [enumL_len, ← dps_length hd] at hi
    exact ⟨xs, xs[i], mono _ _ _ _ s h, by simp [hi]⟩
  stops := fun H s => ⟨xs, mono _ _ _ _ s h, by rw [enumL_len, dps_length hd]⟩
  yields := fun i H x H' d e s y => by
    rw [enumL_get] at e
    obtain ⟨d', e1, e2⟩ := Option.map_eq_some_iff.mp e
    subst e2
    obtain ⟨v, h1, h2⟩ := dps_get hd e1
    obtain ⟨T, u, rfl, h3, h4, h5⟩ := y
    have h6 := h5 xs (mono _ _ _ _ s h)
    rw [h1] at h6
    cases h6
    exact .inr ⟨T, _, _, rfl, h3, h4, rfl, .cons (.int _) (.cons h2 .nil), by show 2 ≤ sizeLine; decide⟩
  sz := by rw [enumL_len, ← dps_length hd]; exact z
theorem walkD_Z {S1 S2 : Hp → Addr → List V → Prop} {b : Addr} {ys : List V} {es : List D} (m1 : ∀ H H' b ys, Same H H' → S1 H b ys → S1 H' b ys) (m2 : ∀ H H' b ys, Same H H' → S2 H b ys → S2 H' b ys) (z : xs.length ≤ sizeLine)
    (h : S1 F a xs) (hd : DpAll C.K F xs ds) (h' : S2 F b ys) (hd' : DpAll C.K F ys es) : WalkD C F (ItZ S1 S2 a b) (zipL ds es) where
  goes := fun i H hi s => by
    rw [zipL_len, ← dps_length hd, ← dps_length hd'] at hi
    exact ⟨xs, ys, xs[i], ys[i], m1 _ _ _ _ s h, m2 _ _ _ _ s h', by simp, by simp⟩
  stops := fun H s => ⟨xs, ys, m1 _ _ _ _ s h, m2 _ _ _ _ s h', by rw [zipL_len, dps_length hd, dps_length hd']⟩
  yields := fun i H x H' d e s y => by
    obtain ⟨d1, d2, e1, e2, rfl⟩ := zipL_get _ _ _ _ e
    obtain ⟨v, h1, h2⟩ := dps_get hd e1
    obtain ⟨u, h3, h4⟩ := dps_get hd' e2
    obtain ⟨T, p, q, rfl, g1, g2, g3, g4⟩ := y
    have k1 := g3 xs (m1 _ _ _ _ s h)
    have k2 := g4 ys (m2 _ _ _ _ s h')
    rw [h1] at k1
    rw [h3] at k2
    cases k1
    cases k2
    exact .inr ⟨T, _, _, rfl, g1, g2, rfl, .cons h2 (.cons h4 .nil), by show 2 ≤ sizeLine; decide⟩
  sz := by
    rw [zipL_len, ← dps_length hd]
    omega
end

section
variable {X : Cx} {C : Ct} {W : Wish} {tg e e2 : Expr} {m n : M Val}
/-- a value that is walked -/
theorem fi_seq (wm : WM W) (hK : C.K = X.K) (he : PE X e (rd C W m)) : PI X tg e (rdI C W (itSeq m)) := by
  refine ⟨fun pins s σ H R I q => ?_⟩
  obtain ⟨F, ρ, S, q⟩ := q
  have q := Pst.bnd.mp q
  refine thn (he.run pins s σ H (fun x H1 => ∃ a J, x = .ref a ∧ ((J = Itl X.K a ∧ ∃ xs, SqL X.K H1 a xs) ∨ (J = Itt X.K a ∧ ∃ xs, SqT X.K H1 a xs)) ∧ R J H1) I ⟨F, ρ, S, q.imp fun v ρ1 q F1 H1 x s1 S1 r => ?_⟩) fun v s1 ⟨x, H1, I1, r1, q1⟩ => ?_
  · obtain ⟨F2, s2, S2, d2⟩ := S1.freeze r
    obtain ⟨ds, e1, q⟩ := q.lift
    cases hv : v.data with
    | list ds' =>
      rw [hv] at e1 d2
      cases e1
      cases d2 with
      | lst q1 q2 =>
        refine ⟨_, _, rfl, .inl ⟨rfl, _, by rw [← hK]; exact sqL_mono S2.sub q1⟩, ?_⟩
        rw [← hK]
        exact q F2 H1 _ (s1.trans s2) S2 (walkD_list (sqL_sz S2.sz (sqL_mono S2.sub q1)) q1 q2)
    | tuple ds' =>
      rw [hv] at e1 d2
      cases e1
      cases d2 with
      | tup q1 q2 =>
        refine ⟨_, _, rfl, .inr ⟨rfl, _, by rw [← hK]; exact sqT_mono S2.sub q1⟩, ?_⟩
        rw [← hK]
        exact q F2 H1 _ (s1.trans s2) S2 (walkD_tup (sqT_sz S2.sz (sqT_mono S2.sub q1)) q1 q2)
    | none => rw [hv] at e1; cases e1
    | bool b => rw [hv] at e1; cases e1
    | int b => rw [hv] at e1; cases e1
    | str b => rw [hv] at e1; cases e1
    | dict b => rw [hv] at e1; cases e1
  · obtain ⟨a, J, rfl, hJ, qR⟩ := q1
    cases r1
    rcases hJ with ⟨rfl, xs, hx⟩ | ⟨rfl, xs, hx⟩
    · obtain ⟨its, rv, p, hz⟩ := I1.list hx
      refine wpAny_pyIter_list p.isList ⟨s1.heap.objs.size, [s1.heap.objs.size], _, _, H1, rfl, I1.kept (t' := s1.toks) fun b o e => Heap.get?_push_of_some _ e, turn_list a _, ⟨_, Heap.get?_push_size _ rfl, rfl, rfl⟩, fun b hb => ?_, qR⟩
      have e : b = s1.heap.objs.size := by simpa using hb
      rw [e]
      exact I1.fpOk (Nat.le_refl _) (I1.hok.fresh (Nat.le_refl _))
    · obtain ⟨its, rv, p, hz⟩ := I1.tuple hx
      refine wpAny_pyIter_tuple p ⟨s1.heap.objs.size, [s1.heap.objs.size], _, _, H1, rfl, I1.kept (t' := s1.toks) fun b o e => Heap.get?_push_of_some _ e, turn_tuple a _, ⟨_, Heap.get?_push_size _ rfl, rfl, rfl⟩, fun b hb => ?_, qR⟩
      have e : b = s1.heap.objs.size := by simpa using hb
      rw [e]
      exact I1.fpOk (Nat.le_refl _) (I1.hok.fresh (Nat.le_refl _))
end
end FK

/-! FkD5: ranges, enumerate, zip; comprehensions. -/
namespace FK
open PySem L2 PyProof.Rows

section
variable {X : Cx} {C : Ct} {W : Wish} {tg e e2 e3 : Expr} {m n : M Val} {p pos : Pos}
theorem rng_go (wm : WM W) {as : List Opd} {σ : L2.St} {H : Hp} {R : It → Hp → Prop} {Rk : List V → Hp → Prop} (q : rdI C W (itRng as) σ H R)
    (i : ∀ F ρ H1 vs ds l, Sim C F ρ σ H1 → Views C F H1 vs ds → rngOf ds = some l → (∀ J, WalkD C F J l → R J H1) → Rk vs H1) : tOpds C W as σ H Rk := by
  obtain ⟨F, ρ, S, q⟩ := q
  refine runs_go wm as S q fun F1 H1 xs os ρ1 s1 S1 g1 h1 => ?_
  obtain ⟨ds, w, h2⟩ := gets_go as S1 g1 h1
  obtain ⟨v, e1, q⟩ := h2.lift
  exact i F1 ρ1 H1 xs ds v S1 w e1 fun J wk => q F1 H1 J s1 S1 wk
theorem toNat_line {i : Int} (h : i ≤ 16777216) : i.toNat ≤ 16777216 := by omega
/-- the number of a range's operands is that of its data -/
theorem views_len {F H : Hp} : ∀ {vs : List V} {ds : List D}, Views C F H vs ds → vs.length = ds.length
  | _, _, .nil => rfl
  | _, _, .cons _ t => by simp [views_len t]
theorem gots_cons {F : Hp} {σ : L2.St} {a : Opd} {as : List Opd} : ∀ {os : List (Option D)} {xs : List V}, Gots C F σ (a :: as) os xs → ∃ o os' x xs', os = o :: os' ∧ xs = x :: xs' ∧ Got C F σ a o x ∧ Gots C F σ as os' xs'
  | [], [], h => h.elim
  | [], _ :: _, h => h.elim
  | _ :: _, [], h => h.elim
  | o :: os, x :: xs, h => ⟨o, os, x, xs, rfl, rfl, h.1, h.2⟩
theorem gots_nil {F : Hp} {σ : L2.St} : ∀ {os : List (Option D)} {xs : List V}, Gots C F σ [] os xs → os = [] ∧ xs = []
  | [], [], _ => ⟨rfl, rfl⟩
  | [], _ :: _, h => h.elim
  | _ :: _, [], h => h.elim
  | _ :: _, _ :: _, h => h.elim
theorem rng1_go (wm : WM W) {oa : Opd} {σ : L2.St} {H : Hp} {R : It → Hp → Prop} (q : rdI C W (itRng [oa]) σ H R) : iRng1 (tOpds C W [oa]) σ H R := by
  obtain ⟨F, ρ, S, q⟩ := q
  refine runs_go wm [oa] S q fun F1 H1 xs os ρ1 s1 S1 g1 h1 => ?_
  obtain ⟨o, os, x, xs, rfl, rfl, g, g1⟩ := gots_cons g1
  obtain ⟨rfl, rfl⟩ := gots_nil g1
  focus
    simp only [gets, bnd_assoc, bnd_ret] at h1
    obtain ⟨d, w, h2⟩ := opd_get S1 g h1
    obtain ⟨l, e1, q⟩ := h2.lift
    unfold rngOf at e1
    split at e1
    · rename_i k hk
      split at e1
      · rename_i hs
        cases e1
        cases hk
        obtain ⟨k1, k2⟩ := small_iff.mp hs
        exact ⟨k, by rw [view_int w], by omega, by omega, q F1 H1 _ s1 S1 (walkD_rng 0 _ (toNat_line (by omega)))⟩
      · cases e1
    · rename_i hk; cases hk
    · rename_i hk; cases hk
    · cases e1
theorem rng2_go (wm : WM W) {oa ob : Opd} {σ : L2.St} {H : Hp} {R : It → Hp → Prop} (q : rdI C W (itRng [oa, ob]) σ H R) : iRng2 (tOpds C W [oa, ob]) σ H R := by
  obtain ⟨F, ρ, S, q⟩ := q
  refine runs_go wm [oa, ob] S q fun F1 H1 xs os ρ1 s1 S1 g1 h1 => ?_
  obtain ⟨o, os, x, xs, rfl, rfl, g, g1⟩ := gots_cons g1
  obtain ⟨o2, os, y, xs, rfl, rfl, g', g1⟩ := gots_cons g1
  obtain ⟨rfl, rfl⟩ := gots_nil g1
  focus
    simp only [gets, bnd_assoc, bnd_ret] at h1
    obtain ⟨d, w, h2⟩ := opd_get S1 g h1
    obtain ⟨d2, w2, h3⟩ := opd_get S1 g' h2
    obtain ⟨l, e1, q⟩ := h3.lift
    unfold rngOf at e1
    split at e1
    · rename_i hk; cases hk
    · rename_i i j hk
      split at e1
      · rename_i hs
        cases e1
        cases hk
        rw [Bool.and_eq_true, small_iff, small_iff] at hs
        exact ⟨i, j, by rw [view_int w, view_int w2], ⟨by omega, by omega, by omega, by omega⟩, q F1 H1 _ s1 S1 (walkD_rng i _ (toNat_line (by omega)))⟩
      · cases e1
    · rename_i hk; cases hk
    · cases e1
theorem rng3_go (wm : WM W) {oa ob oc : Opd} {σ : L2.St} {H : Hp} {R : It → Hp → Prop} (q : rdI C W (itRng [oa, ob, oc]) σ H R) : iRng3 (tOpds C W [oa, ob, oc]) σ H R := by
  obtain ⟨F, ρ, S, q⟩ := q
  refine runs_go wm [oa, ob, oc] S q fun F1 H1 xs os ρ1 s1 S1 g1 h1 => ?_
  obtain ⟨o, os, x, xs, rfl, rfl, g, g1⟩ := gots_cons g1
  obtain ⟨o2, os, y, xs, rfl, rfl, g', g1⟩ := gots_cons g1
  obtain ⟨o3, os, z, xs, rfl, rfl, g'', g1⟩ := gots_cons g1
  obtain ⟨rfl, rfl⟩ := gots_nil g1
  focus
    simp only [gets, bnd_assoc, bnd_ret] at h1
    obtain ⟨d, w, h2⟩ := opd_get S1 g h1
    obtain ⟨d2, w2, h3⟩ := opd_get S1 g' h2
    obtain ⟨d3, w3, h4⟩ := opd_get S1 g'' h3
    obtain ⟨l, e1, q⟩ := h4.lift
    unfold rngOf at e1
    split at e1
    · rename_i hk; cases hk
    · rename_i hk; cases hk
    · rename_i i j c hk
      split at e1
      · rename_i hs
        cases e1
        cases hk
        rw [Bool.and_eq_true, Bool.and_eq_true, small_iff, small_iff, decide_eq_true_iff] at hs
        obtain ⟨hs, rfl⟩ := hs
        exact ⟨i, j, -1, _, by rw [view_int w, view_int w2, view_int w3], RgC.neg (by omega) (by omega) (by omega) (by omega), q F1 H1 _ s1 S1 (walkD_rngC i (-1) _ (toNat_line (by omega)))⟩
      · cases e1
    · cases e1
/-- enumerate(e) -/
theorem fi_enum (wm : WM W) (hK : C.K = X.K) {elts : List Expr} {kk : Nat} {tpos : Pos} (hg : Gl X "enumerate") (hm : X.mg "enumerate" = none) (he : PE X e (rd C W m)) (hs : starEach [e] X.env = [(false, eval e X.env)]) :
    PI X (.Tuple elts kk tpos) (.Call (.Name "enumerate" p) [e] [] pos) (rdI C W (itEnum m)) := by
  refine ⟨fun pins s σ H R I q => ?_⟩
  obtain ⟨F, ρ, S, q⟩ := q
  have q := Pst.bnd.mp q
  have ha : PA X [e] (tCons (rd C W m) tNil) := pa_cons he pa_nil hs
  refine Call_ (ld_blt I hg hm boot_enumerate (PyProof.Rows.callWith_type1 (thn (ha.run pos pins s σ H (fun vs H1 => ∃ a J, vs = [.ref a] ∧ ((J = ItE (SqL X.K) a 0 ∧ ∃ xs, SqL X.K H1 a xs) ∨ (J = ItE (SqT X.K) a 0 ∧ ∃ xs, SqT X.K H1 a xs)) ∧ R J H1) I
    ⟨F, ρ, S, q.imp fun v ρ1 q F1 H1 x s1 S1 r => ?_⟩) fun us s1 ⟨vs, H1, I1, r1, q1⟩ => ?_) hs rfl))
  · obtain ⟨F2, s2, S2, d2⟩ := S1.freeze r
    have q := Pst.bnd.mp q
    obtain ⟨ds, e1, q⟩ := q.lift
    cases hv : v.data with
    | list ds' =>
      rw [hv] at e1 d2
      cases e1
      cases d2 with
      | lst q1 q2 =>
        refine ⟨_, _, rfl, .inl ⟨rfl, _, by rw [← hK]; exact sqL_mono S2.sub q1⟩, ?_⟩
        rw [← hK]
        exact q F2 H1 _ (s1.trans s2) S2 (walkD_E (fun _ _ _ _ s h => sqL_mono s h) (sqL_sz S2.sz (sqL_mono S2.sub q1)) q1 q2)
    | tuple ds' =>
      rw [hv] at e1 d2
      cases e1
      cases d2 with
      | tup q1 q2 =>
        refine ⟨_, _, rfl, .inr ⟨rfl, _, by rw [← hK]; exact sqT_mono S2.sub q1⟩, ?_⟩
        rw [← hK]
        exact q F2 H1 _ (s1.trans s2) S2 (walkD_E (fun _ _ _ _ s h => sqT_mono s h) (sqT_sz S2.sz (sqT_mono S2.sub q1)) q1 q2)
    | none => rw [hv] at e1; cases e1
    | bool b => rw [hv] at e1; cases e1
    | int b => rw [hv] at e1; cases e1
    | str b => rw [hv] at e1; cases e1
    | dict b => rw [hv] at e1; cases e1
  · obtain ⟨a, J, rfl, hJ, qR⟩ := q1
    obtain ⟨u, rfl, ru⟩ := vals1 r1
    cases ru
    have fin : ∀ {S : Hp → Addr → List V → Prop} {so : Heap → Addr → Array Value → Prop} {io : Heap → Addr → Addr → Nat → Prop} {ob : Addr → Obj} (Rr : Src X.prog X.w X.K S so io ob) (xs : List V), S H1 a xs → R (ItE S a 0) H1 →
        wpAny (model X.prog X.w) X.A (call (.type "enumerate") [.ref a]) (fun v s1 => wpAny (model X.prog X.w) X.A (pyIter v) (PIE X pins σ (.Tuple elts kk tpos) R) X.xe s1) X.xe s1 := fun {S so io ob} Rr xs hx qR => by
      obtain ⟨its, rv, hso⟩ := Rr.read X rfl rfl rfl pins σ H1 s1 a xs I1 hx
      have hlt := Rr.lt _ _ _ hso
      refine call_enum1 (Rr.begins a its.toArray) hso fun h' hE hI hk => wpAny_pyIter_enum hE ?_
      have I2 : Inv X pins σ H1 { s1 with heap := h' } := I1.kept (t' := s1.toks) hk
      refine ⟨s1.heap.objs.size + 1, [s1.heap.objs.size + 1, s1.heap.objs.size], _, _, H1, rfl, I2, turn_E Rr a (s1.heap.objs.size + 1) s1.heap.objs.size 0 (Nat.succ_ne_self _) (Nat.ne_of_gt (Nat.lt_succ_of_lt hlt)) (Nat.ne_of_lt hlt), ⟨⟨.none, hE⟩, Rr.first _ _ _ hI⟩, fun b hb => ?_, qR⟩
      have e' : b = s1.heap.objs.size + 1 ∨ b = s1.heap.objs.size := by simpa using hb
      have hle : s1.heap.objs.size ≤ b := by
        rcases e' with z | z
        · rw [z]; exact Nat.le_succ _
        · rw [z]; exact Nat.le_refl _
      exact I1.fpOk hle (I1.hok.fresh hle)
    rcases hJ with ⟨rfl, xs, hx⟩ | ⟨rfl, xs, hx⟩
    · exact fin src_list xs hx qR
    · exact fin src_tup xs hx qR
/-- zip(e, e2) -/
theorem fi_zip (wm : WM W) (hK : C.K = X.K) {elts : List Expr} {kk : Nat} {tpos : Pos} (hg : Gl X "zip") (hm : X.mg "zip" = none) (he : PE X e (rd C W m)) (he2 : PE X e2 (rd C W n)) (hs : starEach [e, e2] X.env = (false, eval e X.env) :: starEach [e2] X.env)
    (hs2 : starEach [e2] X.env = [(false, eval e2 X.env)]) (hpl : (backTo pos (starEach [e2] X.env)).any (·.1) = false) : PI X (.Tuple elts kk tpos) (.Call (.Name "zip" p) [e, e2] [] pos) (rdI C W (itZip m n)) := by
  refine ⟨fun pins s σ H R I q => ?_⟩
  obtain ⟨F, ρ, S, q⟩ := q
  have q := Pst.bnd.mp q
  have ha : PA X [e, e2] (tCons (rd C W m) (tCons (rd C W n) tNil)) := pa_cons he (pa_cons he2 pa_nil hs2) hs
  let Kd : Nat → (Hp → Addr → List V → Prop) := fun k => if k = 0 then SqL X.K else SqT X.K
  have seq : ∀ {F H : Hp} {ρ : Rho} {x : V} {d : D} {ds : List D}, Sim C F ρ σ H → Dp C.K F x d → seqOf d = some ds → ∃ k a xs, k < 2 ∧ x = .ref a ∧ Kd k F a xs ∧ DpAll C.K F xs ds ∧ xs.length ≤ sizeLine := fun {F H ρ x d ds} S h e => by
    cases d with
    | list ds' =>
      cases e
      cases h with
      | lst q1 q2 => exact ⟨0, _, _, by decide, rfl, by show SqL X.K F _ _; rw [← hK]; exact q1, q2, sqL_sz S.sz (sqL_mono S.sub q1)⟩
    | tuple ds' =>
      cases e
      cases h with
      | tup q1 q2 => exact ⟨1, _, _, by decide, rfl, by show SqT X.K F _ _; rw [← hK]; exact q1, q2, sqT_sz S.sz (sqT_mono S.sub q1)⟩
    | none => cases e
    | bool b => cases e
    | int b => cases e
    | str b => cases e
    | dict b => cases e
  have mono : ∀ k H H' b ys, Same H H' → Kd k H b ys → Kd k H' b ys := fun k H H' b ys s h => by
    by_cases hk : k = 0
    · subst hk; exact sqL_mono s h
    · have e : Kd k = SqT X.K := if_neg hk
      rw [e] at h ⊢
      exact sqT_mono s h
  refine Call_ (ld_blt I hg hm boot_zip (PyProof.Rows.callWith_type1 (thn (ha.run pos pins s σ H (fun vs H1 => ∃ k1 k2 a b xs ys, k1 < 2 ∧ k2 < 2 ∧ vs = [.ref a, .ref b] ∧ Kd k1 H1 a xs ∧ Kd k2 H1 b ys ∧ R (ItZ (Kd k1) (Kd k2) a b) H1) I
    ⟨F, ρ, S, q.imp fun v ρ1 q F1 H1 x s1 S1 r => ?_⟩) fun us s1 ⟨vs, H1, I1, r1, q1⟩ => ?_) hs hpl))
  · obtain ⟨F2, s2, S2, d2⟩ := S1.freeze r
    have q := Pst.bnd.mp (Pst.mono wm (s1.trans s2) q)
    refine ⟨F2, ρ1, S2, q.imp fun u ρ2 q F3 H3 y s3 S3 r3 => ?_⟩
    obtain ⟨F4, s4, S4, d4⟩ := S3.freeze r3
    have q := Pst.bnd.mp q
    obtain ⟨ds, e1, q⟩ := q.lift
    have q := Pst.bnd.mp q
    obtain ⟨es, e2, q⟩ := q.lift
    obtain ⟨k1, a, xs, hk1, rfl, h1, h2, z1⟩ := seq S4 (dp_mono (s3.trans s4) _ _ d2) e1
    obtain ⟨k2, b, ys, hk2, rfl, h3, h4, z2⟩ := seq S4 d4 e2
    exact ⟨k1, k2, a, b, xs, ys, hk1, hk2, rfl, mono _ _ _ _ _ S4.sub h1, mono _ _ _ _ _ S4.sub h3, q F4 H3 _ (((s1.trans s2).trans s3).trans s4) S4 (walkD_Z (mono k1) (mono k2) z1 h1 h2 h3 h4)⟩
  · obtain ⟨k1, k2, a, b, xs, ys, hk1, hk2, rfl, hx, hy, qR⟩ := q1
    obtain ⟨u1, u2, rfl, ru1, ru2⟩ := vals2 r1
    cases ru1
    cases ru2
    have fin : ∀ {S1 S2 : Hp → Addr → List V → Prop} {so1 so2 : Heap → Addr → Array Value → Prop} {io1 io2 : Heap → Addr → Addr → Nat → Prop} {ob1 ob2 : Addr → Obj} (Ra : Src X.prog X.w X.K S1 so1 io1 ob1) (Rb : Src X.prog X.w X.K S2 so2 io2 ob2), S1 H1 a xs → S2 H1 b ys → R (ItZ S1 S2 a b) H1 →
        wpAny (model X.prog X.w) X.A (call (.type "zip") [.ref a, .ref b]) (fun v s1 => wpAny (model X.prog X.w) X.A (pyIter v) (PIE X pins σ (.Tuple elts kk tpos) R) X.xe s1) X.xe s1 := fun {S1 S2 so1 so2 io1 io2 ob1 ob2} Ra Rb hx hy qR => by
      obtain ⟨its1, rv1, hso1⟩ := Ra.read X rfl rfl rfl pins σ H1 s1 a xs I1 hx
      obtain ⟨its2, rv2, hso2⟩ := Rb.read X rfl rfl rfl pins σ H1 s1 b ys I1 hy
      have lt1 := Ra.lt _ _ _ hso1
      have lt2 := Rb.lt _ _ _ hso2
      refine zip_begins2 (Ra.begins a its1.toArray) (Rb.begins b its2.toArray) hso1 hso2 fun h' hz hTI hTO g1 g2 hsz hk => wpAny_pyIter_zip hz ?_
      have I2 : Inv X pins σ H1 { s1 with heap := h' } := I1.kept (t' := s1.toks) hk
      have D := zip_sep2 (N := s1.heap.objs.size) (fp1 := [a]) (fp2 := [b]) (by intro c hc; rw [List.mem_singleton.mp hc]; exact lt1) (by intro c hc; rw [List.mem_singleton.mp hc]; exact lt2)
      refine ⟨s1.heap.objs.size + 4, [s1.heap.objs.size + 4, s1.heap.objs.size + 2, s1.heap.objs.size + 3, s1.heap.objs.size, s1.heap.objs.size + 1], _, _, H1, rfl, I2, turn_Z Ra Rb D (Nat.ne_of_lt lt1) (Nat.ne_of_lt (Nat.lt_succ_of_lt lt2)), ⟨hz, hTI, ⟨_, _, hTO⟩, Ra.first _ _ _ g1, Rb.first _ _ _ g2⟩, fun c hc => ?_, qR⟩
      have e' : c = s1.heap.objs.size + 4 ∨ c = s1.heap.objs.size + 2 ∨ c = s1.heap.objs.size + 3 ∨ c = s1.heap.objs.size ∨ c = s1.heap.objs.size + 1 := by simpa using hc
      have hle : s1.heap.objs.size ≤ c := by
        rcases e' with z | z | z | z | z
        · rw [z]; exact Nat.le_add_right _ _
        · rw [z]; exact Nat.le_add_right _ _
        · rw [z]; exact Nat.le_add_right _ _
        · rw [z]; exact Nat.le_refl _
        · rw [z]; exact Nat.le_add_right _ _
      exact I1.fpOk hle (I1.hok.fresh hle)
    have kd : ∀ k, k < 2 → k = 0 ∨ k = 1 := fun k h => by omega
    rcases kd k1 hk1 with rfl | rfl <;> rcases kd k2 hk2 with rfl | rfl
    · exact fin src_list src_list hx hy qR
    · exact fin src_list src_tup hx hy qR
    · exact fin src_tup src_list hx hy qR
    · exact fin src_tup src_tup hx hy qR

/-! ### list(range(..)), tuple(range(..)) -/
theorem rgV_dps {F : Hp} (a b : Int) : DpAll C.K F (rgV a b) (rng a 1 (b - a).toNat) := by
  unfold rgV rng
  generalize (b - a).toNat = k
  induction k with
  | zero => exact .nil
  | succ k ih =>
    rw [List.range_succ, List.map_append, List.map_append]
    refine dps_append ih (.cons ?_ .nil)
    show Dp C.K F (.int (a + (k : Nat))) (.int (a + (k : Int) * 1))
    rw [Int.mul_one]
    exact .int _
end
end FK

/-! FkE1: targets; several values stored; comprehensions. -/
namespace FK
open PySem L2 PyProof.Rows

/-! ### targets -/
def GPost (C : Ct) (F : Hp) (σ : L2.St) (vs : List Nat) (Q : L2.St → Hp → Prop) (ρ' : Rho) : Prop :=
  ∀ F' σ' H', Same F F' → Sim C F' ρ' σ' H' → (∀ i : Nat, i ∉ vs → σ'[i]? = σ[i]?) → σ'.length = σ.length → Q σ' H'
def rdG (C : Ct) (W : Wish) (t : Tgt) : TG := fun x σ H Q => ∃ F ρ d, Sim C F ρ σ H ∧ Dp C.K F x d ∧ Pst W F σ (t.put d ρ) fun _ ρ' => GPost C F σ t.slots Q ρ'
def rdGs (C : Ct) (W : Wish) (ts : List Tgt) : TGs := fun xs σ H Q => ∃ F ρ ds, Sim C F ρ σ H ∧ DpAll C.K F xs ds ∧ Pst W F σ (Tgt.putAll ts ds ρ) fun _ ρ' => GPost C F σ (Tgt.slotsAll ts) Q ρ'
section
variable {X : Cx} {C : Ct} {W : Wish} {e : Expr} {pos : Pos}
theorem setS_ok {α : Type} {W : Wish} {F : Hp} {σ : L2.St} {i : Nat} {v : Val} {ρ : Rho} {k : Unit → Rho → Prop} (h : Pst W F σ (setS i v ρ) k) : i < ρ.length ∧ k () (ρ.set i (some v)) := by
  unfold setS at h
  split at h
  · rename_i hi
    exact ⟨hi, h⟩
  · exact False.elim h
theorem gp_name {i : Nat} {x : V} {σ : L2.St} {H : Hp} {Q : L2.St → Hp → Prop} (hb : ∀ q ∈ C.Bs, q.1 ≠ i) (q : rdG C W (.nm i) x σ H Q) : gName i x σ H Q := by
  obtain ⟨F, ρ, d, S, h, q⟩ := q
  have q : Pst W F σ (setS i (.fz d) ρ) fun _ ρ' => GPost C F σ (Tgt.slots (.nm i)) Q ρ' := by
    have := q
    unfold Tgt.put at this
    exact this
  obtain ⟨_, q⟩ := setS_ok (α := Unit) q
  refine q F _ H (Same.refl F) (S.put (v := .fz d) h hb) (fun j hj => ?_) (by rw [List.length_set])
  have : i ≠ j := fun z => hj (by rw [z]; unfold Tgt.slots; exact List.mem_cons_self)
  rw [List.getElem?_set_ne this]
theorem fg_name {i : Nat} {x : Str} (hN : X.N.Nodup) (hi : X.N[i]? = some x) (hx : Loc X.env.scope x) (hf : X.fn x = true ∨ X.env.scope.names.lookup x = some .local) (hb : ∀ q ∈ C.Bs, q.1 ≠ i) : PG X (.Name x pos) (rdG C W (.nm i)) :=
  PG.imp (pg_name hN hi hx hf) fun v σ H Q q => gp_name hb q
theorem fg_nil : PGs X [] (rdGs C W []) := ⟨fun pins s σ H vs us Q I r q => pgs_nil.run pins s σ H vs us Q I r (by
  obtain ⟨F, ρ, ds, S, h, q⟩ := q
  cases ds with
  | nil =>
    cases h
    exact ⟨rfl, (show GPost C F σ _ Q ρ from q) F σ H (Same.refl F) S (fun _ _ => rfl) rfl⟩
  | cons d ds => exact False.elim q)⟩
theorem fg_cons (wm : WM W) {es : List Expr} {t : Tgt} {ts : List Tgt} (h1 : PG X e (rdG C W t)) (h2 : PGs X es (rdGs C W ts)) (hs : (assignEach (e :: es) X.env).map (·.2) = assign e X.env :: (assignEach es X.env).map (·.2)) : PGs X (e :: es) (rdGs C W (t :: ts)) :=
  ⟨fun pins s σ H vs us Q I r q => (pgs_cons h1 h2 hs).run pins s σ H vs us Q I r (by
    obtain ⟨F, ρ, ds, S, h, q⟩ := q
    cases ds with
    | nil => exact False.elim q
    | cons d ds =>
      cases h with
      | cons hd hds =>
        unfold Tgt.putAll at q
        have q := Pst.bnd.mp q
        refine ⟨_, _, rfl, F, ρ, d, S, hd, q.imp fun _ ρ1 q F1 σ1 H1 s1 S1 k1 l1 => ?_⟩
        refine ⟨F1, ρ1, ds, S1, dps_mono s1 _ _ hds, (Pst.monoS wm s1 q).imp fun _ ρ2 q F2 σ2 H2 s2 S2 k2 l2 => ?_⟩
        refine q F2 σ2 H2 (s1.trans s2) S2 (fun i hi => ?_) (l2.trans l1)
        unfold Tgt.slotsAll at hi
        rw [k2 i fun z => hi (List.mem_append_right _ z), k1 i fun z => hi (List.mem_append_left _ z)])⟩
theorem fg_tup (hc : X.calm = true) (hK : C.K = X.K) {es : List Expr} {ts : List Tgt} {k : Nat} (h : PGs X es (rdGs C W ts)) (hn : (assignEach es X.env).length = ts.length) (hst : (assignEach es X.env).findIdx? (·.1) = none) : PG X (.Tuple es k pos) (rdG C W (.tup ts)) :=
  PG.imp (pg_tup hc h hn hst) fun v σ H Q q => by
    obtain ⟨F, ρ, d, S, h, q⟩ := q
    cases d with
    | tuple ds =>
      cases h with
      | tup h1 h2 =>
        rename_i a xs
        have es : Tgt.slots (.tup ts) = Tgt.slotsAll ts := by rw [Tgt.slots]
        unfold Tgt.put at q
        rw [es] at q
        by_cases hl : ds.length = ts.length
        · rw [if_pos hl] at q
          exact ⟨a, xs, rfl, by rw [← hK]; exact sqT_mono S.sub h1, by rw [dps_length h2]; exact hl, F, ρ, ds, S, h2, q⟩
        · rw [if_neg hl] at q
          exact False.elim q
    | none => exact False.elim q
    | bool _ => exact False.elim q
    | int _ => exact False.elim q
    | str _ => exact False.elim q
    | list _ => exact False.elim q
    | dict _ => exact False.elim q
end

/-! ### several values -/
/-- the values lie apart -/
def RVs (C : Ct) (F : Hp) (ρ : Rho) (σ : L2.St) (H : Hp) : List Val → List V → Prop
  | [], [] => True
  | v :: vs, x :: xs => RV C F ρ σ H v x ∧ (∀ ds, v = .ow ds → ∀ (j : Nat) es, vs[j]? = some (.ow es) → xs[j]? ≠ some x) ∧ RVs C F ρ σ H vs xs
  | _, _ => False
def rdTs (C : Ct) (W : Wish) (m : M (List Val)) : TA := fun σ H Q => ∃ Z F ρ, Sim (C.wz Z) F ρ σ H ∧ Pst W F σ (m ρ) fun vs ρ' => ∀ F' H' xs, Same F F' → Sim (C.wz Z) F' ρ' σ H' → RVs (C.wz Z) F' ρ' σ H' vs xs → Q xs H'
/-- whatever waits meanwhile -/
def rdZ (C : Ct) (W : Wish) (m : M Val) : TE := fun σ H Q => ∃ Z, rd (C.wz Z) W m σ H Q
section
variable {X : Cx} {C : Ct} {W : Wish} {e : Expr} {es : List Expr} {m : M Val} {ms : List (M Val)} {F H : Hp} {ρ : Rho} {σ : L2.St}
theorem rvs_out {Z : Hp} {p : Addr} {o : HO} (hZ : C.Z p = none) : ∀ {vs : List Val} {xs : List V}, RVs (C.wz (upd C.Z p o)) F ρ σ H vs xs → RVs C F ρ σ H vs xs ∧ ∀ (j : Nat) es, vs[j]? = some (.ow es) → xs[j]? ≠ some (.ref p)
  | [], [], _ => ⟨trivial, fun j es h => by simp at h⟩
  | [], _ :: _, h => h.elim
  | _ :: _, [], h => h.elim
  | v :: vs, x :: xs, ⟨h1, h2, h3⟩ => by
    obtain ⟨k1, k2⟩ := rvs_out (Z := Z) hZ h3
    have r : RV C F ρ σ H v x ∧ ∀ es, v = .ow es → x ≠ .ref p := by
      cases v with
      | fz d => exact ⟨h1, fun _ z => nomatch z⟩
      | ow ds =>
        obtain ⟨q, zs, rfl, a1, a2, a3, a4, a5, a6⟩ := h1
        have ne : q ≠ p := fun z => by
          have a5' : upd C.Z p o q = none := a5
          rw [z, upd_same] at a5'; cases a5'
        refine ⟨⟨q, zs, rfl, a1, a2, a3, a4, ?_, a6⟩, fun _ _ z => ne (by injection z)⟩
        have a5' : upd C.Z p o q = none := a5
        rw [upd_ne ne] at a5'
        exact a5'
    refine ⟨⟨r.1, h2, k1⟩, fun j es h => ?_⟩
    cases j with
    | zero =>
      have : v = .ow es := by simpa using h
      intro z
      exact r.2 es this (by simpa using z)
    | succ j => simpa using k2 j es (by simpa using h)
theorem ts_nil {Q : List V → Hp → Prop} (q : rdTs C W (temps []) σ H Q) : tNil σ H Q := by
  obtain ⟨Z, F, ρ, S, q⟩ := q
  exact q F H [] (Same.refl F) S trivial
theorem ts_cons (wm : WM W) {Q : List V → Hp → Prop} (q : rdTs C W (temps (m :: ms)) σ H Q) : tCons (rdZ C W m) (rdTs C W (temps ms)) σ H Q := by
  obtain ⟨Z, F, ρ, S, q⟩ := q
  have q := Pst.bnd.mp q
  refine ⟨Z, F, ρ, S, q.imp fun v ρ1 q F1 H1 x s1 S1 r => ?_⟩
  have q := Pst.bnd.mp (Pst.mono wm s1 q)
  cases v with
  | fz d => exact ⟨Z, F1, ρ1, S1, q.imp fun vs ρ2 q F2 H2 xs s2 S2 rs => q F2 H2 (x :: xs) (s1.trans s2) S2 ⟨dp_mono s2 _ _ r, fun _ z => (nomatch z), rs⟩⟩
  | ow ds =>
    obtain ⟨p, zs, rfl, a1, a2, a3, a4, a5, a6⟩ := r
    refine ⟨upd Z p (.lst zs), F1, ρ1, S1.lock (C := C.wz Z) a1 a2 a6, q.imp fun vs ρ2 q F2 H2 xs s2 S2 rs => ?_⟩
    obtain ⟨S3, b1, b2, b3⟩ := Sim.unlock (C := C.wz Z) S2 a5
    obtain ⟨rs', b4⟩ := rvs_out (C := C.wz Z) (Z := Z) a5 rs
    exact q F2 H2 (.ref p :: xs) (s1.trans s2) S3 ⟨⟨p, zs, rfl, b2, b1, dps_mono s2 _ _ a3, a4, a5, b3⟩, fun _ _ j es h => b4 j es h, rs'⟩
theorem fts_nil : PA X [] (rdTs C W (temps [])) := PA.imp pa_nil fun σ H Q q => ts_nil q
theorem fts_cons (wm : WM W) (he : PE X e (rdZ C W m)) (hr : PA X es (rdTs C W (temps ms))) (hs : starEach (e :: es) X.env = (false, eval e X.env) :: starEach es X.env) : PA X (e :: es) (rdTs C W (temps (m :: ms))) :=
  PA.imp (pa_cons he hr hs) fun σ H Q q => ts_cons wm q
theorem fz_e (h : ∀ Z, PE X e (rd (C.wz Z) W m)) : PE X e (rdZ C W m) := ⟨fun pins s σ H Q I ⟨Z, q⟩ => (h Z).run pins s σ H Q I q⟩
end

/-! ### comprehensions -/
theorem wipe_eq {σ τ : L2.St} (hl : σ.length = τ.length) : ∀ (vs : List Nat), (∀ i : Nat, i ∉ vs → σ[i]? = τ[i]?) → wipe σ vs = wipe τ vs := by
  have get : ∀ (σ : L2.St) (vs : List Nat) (i : Nat), (wipe σ vs)[i]? = if i ∈ vs then (if i < σ.length then some none else none) else σ[i]? := by
    intro σ vs
    induction vs with
    | nil => intro i; simp [wipe]
    | cons v vs ih =>
      intro i
      unfold wipe
      by_cases hv : v = i
      · subst hv
        by_cases hlt : v < (wipe σ vs).length
        · rw [List.getElem?_set_self hlt]
          rw [wipe_length] at hlt
          simp [hlt]
        · rw [List.getElem?_eq_none (by rw [List.length_set]; omega)]
          rw [wipe_length] at hlt
          simp [hlt]
      · rw [List.getElem?_set_ne hv, ih]
        have : (i ∈ v :: vs) ↔ i ∈ vs := by simp [List.mem_cons, Ne.symm hv]
        simp only [this]
  intro vs h
  apply List.ext_getElem?
  intro i
  rw [get, get, hl]
  by_cases hi : i ∈ vs
  · rw [if_pos hi, if_pos hi]
  · rw [if_neg hi, if_neg hi]
    exact h i hi
section
variable {C : Ct} {F H : Hp} {ρ : Rho} {σ : L2.St} {W : Wish}
/-- behind a turn the slots of the block are forgotten -/
theorem Sim.rewipe {σ2 : L2.St} {vs : List Nat} (S : Sim C F ρ σ2 H) (hb : ∀ q ∈ C.Bs, q.1 ∉ vs) (he : wipe σ2 vs = wipe σ vs) : Sim C F (wipeR ρ vs) (wipe σ vs) H := by
  have := S.wiped vs hb
  rw [he] at this
  exact this
theorem wipeR_get {ρ : Rho} : ∀ (vs : List Nat) (i : Nat), (wipeR ρ vs)[i]? = if i ∈ vs then (if i < ρ.length then some none else none) else ρ[i]?
  | [], i => by simp [wipeR]
  | v :: vs, i => by
    have hlen : ∀ ws : List Nat, (wipeR ρ ws).length = ρ.length := fun ws => by
      induction ws with
      | nil => rfl
      | cons w ws ih => simp [wipeR, ih]
    unfold wipeR
    by_cases hv : v = i
    · subst hv
      by_cases hlt : v < ρ.length
      · rw [List.getElem?_set_self (by rw [hlen]; exact hlt)]; simp [hlt]
      · rw [List.getElem?_eq_none (by rw [List.length_set, hlen]; omega)]; simp [hlt]
    · rw [List.getElem?_set_ne hv, wipeR_get vs i]
      have : (i ∈ v :: vs) ↔ i ∈ vs := by simp [List.mem_cons, Ne.symm hv]
      simp only [this]
/-- the block is left: the slots as they stood ahead of it -/
theorem Sim.restored {F1 : Hp} {ρ' : Rho} {H' : Hp} {vs : List Nat} (S0 : Sim C F ρ σ H) (S : Sim C F1 ρ' (wipe σ vs) H') (sm : Same F F1) (no : noOw ρ vs = true) (hl : ρ'.length = ρ.length) : Sim C F1 (restore ρ ρ' vs) σ H' := by
  have get := restore_get hl vs
  have wget : ∀ i : Nat, i ∉ vs → (wipe σ vs)[i]? = σ[i]? := fun i hi => wipe_out hi
  have lenr : (restore ρ ρ' vs).length = ρ.length := by
    have : ∀ ws : List Nat, (restore ρ ρ' ws).length = ρ.length := fun ws => by
      induction ws with
      | nil => exact hl
      | cons w ws ih => simp [restore, ih]
    exact this vs
  have owout : ∀ (i : Nat) ds, (restore ρ ρ' vs)[i]? = some (some (.ow ds)) → i ∉ vs ∧ ρ'[i]? = some (some (.ow ds)) := fun i ds h => by
    rw [get] at h
    split at h
    · rename_i hc
      exfalso
      have : ρ[i]? = some (some (.ow ds)) := by
        rw [List.getElem?_eq_getElem hc.2] at h ⊢
        simpa using h
      have q := List.all_eq_true.mp no i hc.1
      rw [this] at q
      simp [isOw] at q
    · rename_i hc
      refine ⟨fun z => hc ⟨z, ?_⟩, h⟩
      rw [← hl]
      exact (List.getElem?_eq_some_iff.mp h).1
  refine ⟨by rw [lenr]; exact S0.len, S.sub, S.sz, fun i d h => ?_, fun i ds h => ?_, fun i j ds es p ne h1 h2 h3 => ?_, S0.brs, S.bt, S.ext, S.f0, S.new, fun a u e => ?_⟩
  · rw [get] at h
    split at h
    · rename_i hc
      have : ρ[i]? = some (some (.fz d)) := by
        rw [List.getElem?_eq_getElem hc.2] at h ⊢
        simpa using h
      obtain ⟨x, k1, k2⟩ := S0.fz i d this
      exact ⟨x, k1, dp_mono sm _ _ k2⟩
    · rename_i hc
      have hi : i ∉ vs := fun z => hc ⟨z, by rw [← hl]; exact (List.getElem?_eq_some_iff.mp h).1⟩
      obtain ⟨x, k1, k2⟩ := S.fz i d h
      rw [wget i hi] at k1
      exact ⟨x, k1, k2⟩
  · obtain ⟨hi, h⟩ := owout i ds h
    obtain ⟨p, xs, k1, k2⟩ := S.ow i ds h
    rw [wget i hi] at k1
    exact ⟨p, xs, k1, k2⟩
  · obtain ⟨hi, h1⟩ := owout i ds h1
    obtain ⟨hj, h2⟩ := owout j es h2
    have := S.dist i j ds es p ne h1 h2
    rw [wget i hi, wget j hj] at this
    exact this h3
  · obtain ⟨h1, h2, h3⟩ := S.zp a u e
    refine ⟨h1, h2, fun i es k => ?_⟩
    obtain ⟨hi, k⟩ := owout i es k
    rw [← wget i hi]
    exact h3 i es k
theorem restore_ow {F1 : Hp} {ρ' : Rho} {H' : Hp} {vs : List Nat} (no : noOw ρ vs = true) (hl : ρ'.length = ρ.length) {i : Nat} {ds : List FK.D} (h : (restore ρ ρ' vs)[i]? = some (some (.ow ds))) : i ∉ vs ∧ ρ'[i]? = some (some (.ow ds)) := by
  rw [restore_get hl vs] at h
  split at h
  · rename_i hc
    exfalso
    have : ρ[i]? = some (some (.ow ds)) := by
      rw [List.getElem?_eq_getElem hc.2] at h ⊢
      simpa using h
    have q := List.all_eq_true.mp no i hc.1
    rw [this] at q
    simp [isOw] at q
  · rename_i hc
    refine ⟨fun z => hc ⟨z, ?_⟩, h⟩
    rw [← hl]
    exact (List.getElem?_eq_some_iff.mp h).1
/-- a list that nobody else knows is changed -/
theorem Sim.poke {p : Addr} {ys : List V} (S : Sim C F ρ σ H) (h1 : F p = none) (h2 : C.Z p = none) (h3 : C.H0 p = none) (h4 : ∀ (i : Nat) (es : List FK.D), ρ[i]? = some (some (.ow es)) → σ[i]? ≠ some (some (.ref p))) (hz : ys.length ≤ sizeLine) :
    Sim C F ρ σ (upd H p (.lst ys)) :=
  ⟨S.len, fun a u e => by rw [upd_ne (ne_of_none e h1)]; exact S.sub _ _ e, S.sz.new hz, S.fz, fun i es e => by
    obtain ⟨q, zs, k1, k2, k3, k4, k5⟩ := S.ow i es e
    have ne : q ≠ p := fun z => h4 i es e (by rw [k1, z])
    exact ⟨q, zs, k1, k2, by rw [upd_ne ne]; exact k3, k4, k5⟩, S.dist, S.brs, fun q hq => by
    by_cases z : q.2 = p
    · rw [z, upd_same]; simp
    · rw [upd_ne z]; exact S.bt q hq, fun a u e hb => by rw [upd_ne (ne_of_none e h3)]; exact S.ext a u e hb, S.f0, S.new, fun a u e => by
    obtain ⟨k1, k2, k3⟩ := S.zp a u e
    exact ⟨by rw [upd_ne (ne_of_none e h2)]; exact k1, k2, k3⟩⟩
/-- nothing may be raised -/
abbrev WF : Wish := fun _ _ _ _ _ => False
theorem wf : WM WF := fun _ _ _ _ _ _ _ _ h => h
def rdTZ (C : Ct) (m : M Bool) : TT := fun σ H Q => ∃ Z, rdT (C.wz Z) WF m σ H Q
def rdGZ (C : Ct) (t : Tgt) : TG := fun x σ H Q => ∃ Z, rdG (C.wz Z) WF t x σ H Q
theorem lc_go (wm : WM W) {it : M (List FK.D)} {t : Tgt} {c : M Bool} {e : M Val} {vs : List Nat} {Q : VK} (hb : ∀ q ∈ C.Bs, q.1 ∉ vs) (ht : ∀ i ∈ t.slots, i ∈ vs) (h : rd C W (mComp vs it t c e) σ H Q) :
    tLc (rdI C W it) (rdGZ C t) (rdTZ C c) (rdZ C WF e) vs σ H Q := by
  obtain ⟨F, ρ, S, h⟩ := h
  have h := Pst.bnd.mp h
  refine ⟨F, ρ, S, h.imp fun ds ρ1 q F1 H1 J s1 S1 wk D hD => ?_⟩
  by_cases no : noOw ρ1 vs = true
  case neg => rw [if_neg no] at q; exact False.elim q
  rw [if_pos no] at q
  cases hc : compL t c e vs ds (wipeR ρ1 vs) with
  | exc c' ds' ρ' => rw [hc] at q; exact False.elim q
  | bad => rw [hc] at q; exact False.elim q
  | ok r ρ2 =>
    rw [hc] at q
    have hZ : C.Z D = none := S1.freeZ hD
    have h0 : C.H0 D = none := S1.free0 hD
    -- the state ahead of turn i
    let At : Nat → Hp → Prop := fun i H => ∃ F2 ρi acc xs, Same F1 F2 ∧ Sim (C.wz (upd C.Z D (.lst xs))) F2 ρi (wipe σ vs) H ∧ DpAll C.K F2 xs acc ∧ acc.length ≤ i ∧
      Pst WF F2 (wipe σ vs) (compL t c e vs (ds.drop i) ρi) fun rest ρ' => ρ' = ρ2 ∧ r = acc ++ rest
    refine ⟨fun i m H => m = ds.length - i ∧ i ≤ ds.length ∧ At i H, ⟨ds.length, by omega, Nat.zero_le _, F1, wipeR ρ1 vs, [], [], Same.refl F1, ?_, .nil, Nat.le_refl _, ?_⟩, ?_⟩
    · have S2 := (S1.own (xs := []) hD (Nat.zero_le _)).wiped vs hb
      refine S2.lock (S1.free hD) upd_same fun i es k => ?_
      rw [wipeR_get] at k
      split at k
      · split at k <;> cases k
      · rename_i hi
        rw [wipe_out hi]
        obtain ⟨p, zs, k1, k2, k3, _⟩ := S1.ow i es k
        rw [k1]
        intro z
        cases z
        rw [hD] at k3; cases k3
    · rw [List.drop_zero, hc]
      exact ⟨rfl, rfl⟩
    rintro i m H2 ⟨rfl, hi, F2, ρi, acc, xs, s2, S2, hd, hl, hp⟩
    by_cases hlt : i < ds.length
    · refine .inr ⟨wk.goes i H2 hlt fun a o k => S2.sub _ _ (s2 _ _ k), At (i + 1), fun H' hA => ⟨ds.length - (i + 1), by omega, rfl, hlt, hA⟩, fun x H' hy => ?_⟩
      have hdrop : ds.drop i = ds[i] :: ds.drop (i + 1) := List.drop_eq_getElem_cons hlt
      rw [hdrop] at hp
      have hx := wk.yields i H2 x H' ds[i] (List.getElem?_eq_getElem hlt) (fun a o k => S2.sub _ _ (s2 _ _ k)) hy
      -- the item lies
      obtain ⟨F3, s3, S3, hdx⟩ : ∃ F3, Same F2 F3 ∧ Sim (C.wz (upd C.Z D (.lst xs))) F3 ρi (wipe σ vs) H' ∧ Dp C.K F3 x ds[i] := by
        rcases hx with ⟨rfl, hx⟩ | ⟨T, zs, ds', rfl, hT, rfl, hd', hz, hzl⟩
        · exact ⟨F2, Same.refl F2, S2, dp_mono s2 _ _ hx⟩
        · obtain ⟨S4, k⟩ := S2.tup hT (dps_mono s2 _ _ hz) hzl
          rw [hd']
          exact ⟨_, same_new (S2.free hT), S4, k⟩
      unfold compL at hp
      have hp := Pst.bnd.mp (Pst.mono wf s3 hp)
      refine ⟨_, F3, ρi, ds[i], S3, hdx, hp.imp fun _ ρa hp F4 σ4 H4 s4 S4 k4 l4 => ⟨?_, ?_⟩⟩
      · exact wipe_eq (by rw [l4, wipe_length]) vs fun j hj => by rw [k4 j fun z => hj (ht j z), wipe_out hj]
      have hw : wipe σ4 vs = wipe σ vs := wipe_eq (by rw [l4, wipe_length]) vs fun j hj => by rw [k4 j fun z => hj (ht j z), wipe_out hj]
      have hp := Pst.bnd.mp (Pst.monoS (σ' := σ4) wf s4 hp)
      refine ⟨_, F4, ρa, S4, hp.imp fun b ρb hp F5 H5 s5 S5 => ?_⟩
      have hp := Pst.bnd.mp (Pst.mono wf s5 hp)
      cases b with
      | false =>
        rw [if_neg (by decide)] at hp
        show At (i + 1) H5
        have hp := Pst.bnd.mp (show Pst WF F5 σ4 _ _ from hp)
        obtain ⟨hS, g1, g2, g3⟩ := Sim.unlock S5 hZ
        refine ⟨F5, wipeR ρb vs, acc, xs, ((s2.trans s3).trans s4).trans s5, S5.rewipe hb hw, dps_mono ((s3.trans s4).trans s5) _ _ hd, Nat.le_succ_of_le hl, ?_⟩
        have hp := Pst.bnd.mp (show Pst WF F5 σ4 (bnd (compL t c e vs (ds.drop (i + 1))) (fun r => ret ([] ++ r)) (wipeR ρb vs)) _ from hp)
        exact Pst.monoS wf (Same.refl F5) (hp.imp fun rest ρ' q => q)
      | true =>
        rw [if_pos rfl] at hp
        show rdZ C WF e σ4 H5 fun y H4 => ∃ acc, H4 D = some (HO.lst acc) ∧ acc.length < sizeLine ∧ At (i + 1) (upd H4 D (HO.lst (acc ++ [y])))
        have hp := Pst.bnd.mp hp
        refine ⟨_, F5, ρb, S5, hp.imp fun v ρc hp F6 H6 y s6 S6 r6 => ?_⟩
        obtain ⟨F7, s7, S7, d7⟩ := S6.freeze r6
        obtain ⟨hS, g1, g2, g3⟩ := Sim.unlock S7 hZ
        have hxl : xs.length = acc.length := dps_length hd
        have hzn : ds.length ≤ sizeLine := wk.sz
        refine ⟨xs, g1, by omega, ?_⟩
        have S8 := hS.poke (ys := xs ++ [y]) g2 hZ h0 g3 (by rw [List.length_append]; simp only [List.length_cons, List.length_nil]; omega)
        have S9 := S8.rewipe hb hw
        have hdd : DpAll C.K F7 (xs ++ [y]) (acc ++ [v.data]) := dps_append (dps_mono ((((s3.trans s4).trans s5).trans s6).trans s7) _ _ hd) (.cons d7 .nil)
        refine ⟨F7, wipeR ρc vs, acc ++ [v.data], xs ++ [y], (((((s2.trans s3).trans s4).trans s5).trans s6).trans s7), ?_, hdd, by rw [List.length_append]; simp only [List.length_cons, List.length_nil]; omega, ?_⟩
        · refine S9.lock g2 upd_same fun j es k => ?_
          rw [wipeR_get] at k
          split at k
          · split at k <;> cases k
          · rename_i hj
            have e4 : (wipe σ vs)[j]? = σ4[j]? := by rw [← hw, wipe_out hj]
            rw [e4]
            exact g3 j es k
        · have hp := Pst.bnd.mp (show Pst WF F5 σ4 (bnd (compL t c e vs (ds.drop (i + 1))) (fun r => ret ([v.data] ++ r)) (wipeR ρc vs)) _ from hp)
          refine Pst.monoS wf (s6.trans s7) (hp.imp fun rest ρ' q => ⟨q.1, ?_⟩)
          rw [q.2, List.append_assoc]
    · have hie : i = ds.length := by omega
      subst hie
      rw [List.drop_length] at hp
      obtain ⟨e1, e2⟩ : ρi = ρ2 ∧ r = acc ++ [] := hp
      subst e1
      rw [List.append_nil] at e2
      subst e2
      obtain ⟨hS, g1, g2, g3⟩ := Sim.unlock S2 hZ
      have hlen : ρi.length = ρ1.length := by rw [hS.len, wipe_length, S1.len]
      refine .inl ⟨wk.stops H2 fun a o k => S2.sub _ _ (s2 _ _ k), q F2 H2 (.ref D) (s1.trans s2) (Sim.restored S1 hS s2 no hlen) ⟨D, xs, rfl, g2, g1, hd, h0, hZ, fun j es k => ?_⟩⟩
      obtain ⟨hj, k⟩ := restore_ow (F1 := F1) (H' := H2) no hlen k
      rw [← wipe_out (σ := σ) hj]
      exact g3 j es k
end
end FK

/-! FkE2: statements. -/
namespace FK
open PySem L2 PyProof.Rows

def RVr (C : Ct) (F H : Hp) (v : Val) (x : V) : Prop :=
  match v with
  | .fz d => Dp C.K F x d
  | .ow ds => ∃ p xs, x = .ref p ∧ F p = none ∧ H p = some (.lst xs) ∧ DpAll C.K F xs ds ∧ C.H0 p = none
theorem RV.r {C : Ct} {F H : Hp} {ρ : Rho} {σ : L2.St} {v : Val} {x : V} (h : RV C F ρ σ H v x) : RVr C F H v x := by
  cases v with
  | fz d => exact h
  | ow ds =>
    obtain ⟨p, xs, a1, a2, a3, a4, a5, _⟩ := h
    exact ⟨p, xs, a1, a2, a3, a4, a5⟩
def PF (C : Ct) (F : Hp) (D : Ends) (f : Fl) (ρ' : Rho) : Prop :=
  match f with
  | .nx => ∀ F' σ' H', Same F F' → Sim C F' ρ' σ' H' → D.nx σ' H'
  | .bk => ∀ F' σ' H', Same F F' → Sim C F' ρ' σ' H' → D.bk σ' H'
  | .ct => ∀ F' σ' H', Same F F' → Sim C F' ρ' σ' H' → D.ct σ' H'
  | .rt v => ∀ F' σ' H' x, Same F F' → Sim C F' ρ' σ' H' → RVr C F' H' v x → D.rt x H'
theorem PF.mono {C : Ct} {F F' : Hp} {D : Ends} {f : Fl} {ρ : Rho} (s : Same F F') (h : PF C F D f ρ) : PF C F' D f ρ := by
  cases f with
  | nx => exact fun F2 σ2 H2 s2 => h F2 σ2 H2 (s.trans s2)
  | bk => exact fun F2 σ2 H2 s2 => h F2 σ2 H2 (s.trans s2)
  | ct => exact fun F2 σ2 H2 s2 => h F2 σ2 H2 (s.trans s2)
  | rt v => exact fun F2 σ2 H2 x s2 => h F2 σ2 H2 x (s.trans s2)
def rdS (C : Ct) (W : Wish) (m : MS) : TS := fun D σ H => ∃ F ρ, Sim C F ρ σ H ∧ Pst W F σ (m ρ) (PF C F D)
section
variable {X : Cx} {C : Ct} {W : Wish} {e : Expr} {pos : Pos} {st : Stmt} {rest : List Stmt} {m n : M Val} {a b : MS} {σ : L2.St} {H : Hp} {D : Ends}
theorem seq_go (wm : WM W) (q : rdS C W (sSeq a b) D σ H) : tSeq (rdS C W a) (rdS C W b) D σ H := by
  obtain ⟨F, ρ, S, q⟩ := q
  have q := Pst.bnd.mp q
  refine ⟨F, ρ, S, q.imp fun f ρ1 q => ?_⟩
  cases f with
  | nx => exact fun F' σ' H' s S' => ⟨F', ρ1, S', (Pst.monoS wm s q).imp fun f ρ2 q => PF.mono s q⟩
  | bk => exact q
  | ct => exact q
  | rt v => exact q
theorem fss_nil : PSs X [] (rdS C W sNx) := PSs.imp pss_nil fun D σ H ⟨F, ρ, S, q⟩ => q F σ H (Same.refl F) S
theorem fss_one (h : PS X st (rdS C W a)) : PSs X [st] (rdS C W a) := pss_one h
theorem fss_cons (wm : WM W) (h : PS X st (rdS C W a)) (h2 : PSs X rest (rdS C W b)) : PSs X (st :: rest) (rdS C W (sSeq a b)) := PSs.imp (pss_cons h h2) fun D σ H q => seq_go wm q
theorem fs_pass : PS X (.Pass pos) (rdS C W sNx) := PS.imp ps_pass fun D σ H ⟨F, ρ, S, q⟩ => q F σ H (Same.refl F) S
theorem fs_break : PS X (.Break pos) (rdS C W (ret .bk)) := PS.imp ps_break fun D σ H ⟨F, ρ, S, q⟩ => q F σ H (Same.refl F) S
theorem fs_continue : PS X (.Continue pos) (rdS C W (ret .ct)) := PS.imp ps_continue fun D σ H ⟨F, ρ, S, q⟩ => q F σ H (Same.refl F) S
theorem fs_doc {x j pos'} : PS X (.Expr (.Constant (.str x) j pos) pos') (rdS C W sNx) := PS.imp ps_doc fun D σ H ⟨F, ρ, S, q⟩ => q F σ H (Same.refl F) S
theorem fs_drop (he : PE X e (rd C W m)) (hs : swapsWith e none pos.line X.env = pure false) : PS X (.Expr e pos) (rdS C W (sDrop m)) := PS.imp (ps_expr he hs) fun D σ H ⟨F, ρ, S, q⟩ =>
  ⟨F, ρ, S, (Pst.bnd.mp q).imp fun v ρ1 q F1 H1 x s1 S1 r => q F1 σ H1 s1 S1⟩
theorem fs_ret (he : PE X e (rd C W m)) : PS X (.Return (some e) pos) (rdS C W (sRet m)) := PS.imp (ps_ret he) fun D σ H ⟨F, ρ, S, q⟩ =>
  ⟨F, ρ, S, (Pst.bnd.mp q).imp fun v ρ1 q F1 H1 x s1 S1 r => q F1 σ H1 x s1 S1 r.r⟩
theorem fs_retN : PS X (.Return none pos) (rdS C W (sRet (mC .none))) := PS.imp ps_retN fun D σ H ⟨F, ρ, S, q⟩ => q F σ H .non (Same.refl F) S .non
theorem fs_move {i : Nat} (he : PE X e (tVar i)) (hb : ∀ q ∈ C.Bs, q.1 ≠ i) : PS X (.Return (some e) pos) (rdS C W (sRet (mMove i))) := PS.imp (ps_ret he) fun D σ H ⟨F, ρ, S, q⟩ => by
  have q := Pst.bnd.mp q
  unfold mMove at q
  split at q
  · rename_i v e1
    cases v with
    | fz d =>
      obtain ⟨x, h1, h2⟩ := S.fz _ _ e1
      exact ⟨x, h1, q F σ H x (Same.refl F) S h2⟩
    | ow ds =>
      obtain ⟨p, xs, h1, h2, h3, h4, h5⟩ := S.ow _ _ e1
      refine ⟨_, h1, q F σ H _ (Same.refl F) S ⟨p, xs, rfl, h2, h3, h4, ?_⟩⟩
      rcases h5 with h5 | h5
      · exact absurd rfl (hb _ h5)
      · exact h5
  · exact False.elim q
theorem fs_if (wm : WM W) {c : Expr} {t u : List Stmt} {mc : M Bool} (hc : PT X c (rdT C W mc)) (ha : PSs X t (rdS C W a)) (hb : PSs X u (rdS C W b)) : PS X (.If c t u pos) (rdS C W (sIf mc a b)) := PS.imp (ps_if hc ha hb) fun D σ H ⟨F, ρ, S, q⟩ => by
  refine ⟨F, ρ, S, (Pst.bnd.mp q).imp fun k ρ1 q F1 H1 s1 S1 => ?_⟩
  cases k with
  | true => exact ⟨F1, ρ1, S1, (Pst.mono wm s1 q).imp fun f ρ2 q => PF.mono s1 q⟩
  | false => exact ⟨F1, ρ1, S1, (Pst.mono wm s1 q).imp fun f ρ2 q => PF.mono s1 q⟩

/-! ### stores -/
theorem set_go {i : Nat} (hb : ∀ q ∈ C.Bs, q.1 ≠ i) (q : rdS C W (sSet i m) D σ H) : tAsg (rd C W m) (gName i) D σ H := by
  obtain ⟨F, ρ, S, q⟩ := q
  refine ⟨F, ρ, S, (Pst.bnd.mp q).imp fun v ρ1 q F1 H1 x s1 S1 r => ?_⟩
  have q := Pst.bnd.mp q
  obtain ⟨_, q⟩ := setS_ok (α := Unit) q
  exact q F1 _ H1 s1 (S1.put r hb)
theorem fs_set {i : Nat} {y : Str} {p : Pos} (hN : X.N.Nodup) (hi : X.N[i]? = some y) (hx : Loc X.env.scope y) (hf : X.fn y = true ∨ X.env.scope.names.lookup y = some .local) (hb : ∀ q ∈ C.Bs, q.1 ≠ i) (he : PE X e (rd C W m))
    (hs : swapsWithSole [.Name y p] e pos.line X.env = pure false) : PS X (.Assign [.Name y p] e pos) (rdS C W (sSet i m)) :=
  PS.imp (ps_asg he (pg_name (pos := p) hN hi hx hf) hs rfl rfl) fun D σ H q => set_go hb q
theorem put_go (wm : WM W) {t : Tgt} (q : rdS C W (sPut t m) D σ H) : tAsg (rd C W m) (rdG C W t) D σ H := by
  obtain ⟨F, ρ, S, q⟩ := q
  refine ⟨F, ρ, S, (Pst.bnd.mp q).imp fun v ρ1 q F1 H1 x s1 S1 r => ?_⟩
  obtain ⟨F2, s2, S2, d2⟩ := S1.freeze r
  have q := Pst.bnd.mp (Pst.mono wm (s1.trans s2) q)
  exact ⟨F2, ρ1, v.data, S2, d2, q.imp fun _ ρ2 q F3 σ3 H3 s3 S3 _ _ => q F3 σ3 H3 ((s1.trans s2).trans s3) S3⟩
theorem fs_put (wm : WM W) {tg : Expr} {t : Tgt} (hg : PG X tg (rdG C W t)) (he : PE X e (rd C W m)) (hs : swapsWithSole [tg] e pos.line X.env = pure false) (hw : swappedStores [tg] e X.env = pure none) (h1 : (assignEach [tg] X.env).map (·.2) = [assign tg X.env]) :
    PS X (.Assign [tg] e pos) (rdS C W (sPut t m)) := PS.imp (ps_asg he hg hs hw h1) fun D σ H q => put_go wm q
/-- several names, several values -/
theorem rvs_put {F : Hp} {ρ : Rho} {i : Nat} {v : Val} {x : V} {vs : List Val} {xs : List V} (ap : ∀ ds, v = .ow ds → ∀ (j : Nat) es, vs[j]? = some (.ow es) → xs[j]? ≠ some x) (hl : i < ρ.length) (hs : ρ.length = σ.length) :
    RVs C F ρ σ H vs xs → RVs C F (ρ.set i (some v)) (σ.set i (some x)) H vs xs := by
  revert xs
  induction vs with
  | nil => intro xs _ h; cases xs <;> exact h
  | cons w vs ih =>
    intro xs ap h
    cases xs with
    | nil => exact h
    | cons y xs =>
      obtain ⟨h1, h2, h3⟩ := h
      refine ⟨?_, h2, ih (fun ds e j es k => by simpa using ap ds e (j + 1) es (by simpa using k)) h3⟩
      cases w with
      | fz d => exact h1
      | ow ds =>
        obtain ⟨p, zs, rfl, a1, a2, a3, a4, a5, a6⟩ := h1
        refine ⟨p, zs, rfl, a1, a2, a3, a4, a5, fun k es e => ?_⟩
        by_cases hk : i = k
        · subst hk
          rw [List.getElem?_set_self hl] at e
          cases e
          rw [List.getElem?_set_self (by omega)]
          have := ap es rfl 0 ds (by simp)
          intro z
          apply this
          simpa using (Option.some.inj (Option.some.inj z)).symm
        · rw [List.getElem?_set_ne hk] at e
          rw [List.getElem?_set_ne hk]
          exact a6 k es e
def gNames : List Nat → TGs
  | [] => gNil
  | i :: is => gCons (gName i) (gNames is)
def setSt : List Nat → List V → L2.St → L2.St
  | i :: is, x :: xs, σ => setSt is xs (σ.set i (some x))
  | _, _, σ => σ
theorem setAll_go {F : Hp} {ρ0 : Rho → Prop} : ∀ (is : List Nat) {vs : List Val} {xs : List V} {ρ : Rho} {σ σ0 : L2.St} {K : Rho → Prop}, (∀ i ∈ is, ∀ q ∈ C.Bs, q.1 ≠ i) → Sim C F ρ σ H → RVs C F ρ σ H vs xs → Pst W F σ0 (setAll is vs ρ) (fun _ ρ' => K ρ') →
    is.length = xs.length ∧ ∃ ρ', K ρ' ∧ Sim C F ρ' (setSt is xs σ) H
  | [], vs, xs, ρ, σ, σ0, K, hb, S, r, q => by
    cases vs with
    | nil =>
      cases xs with
      | nil => exact ⟨rfl, ρ, q, S⟩
      | cons _ _ => exact r.elim
    | cons _ _ => exact False.elim q
  | i :: is, vs, xs, ρ, σ, σ0, K, hb, S, r, q => by
    cases vs with
    | nil => exact False.elim q
    | cons v vs =>
      cases xs with
      | nil => exact r.elim
      | cons x xs =>
        obtain ⟨h1, h2, h3⟩ := r
        have q := Pst.bnd.mp q
        obtain ⟨hl, q⟩ := setS_ok (α := Unit) q
        obtain ⟨k1, ρ', k2, k3⟩ := setAll_go (ρ0 := ρ0) is (fun j hj => hb j (List.mem_cons_of_mem _ hj)) (S.put h1 (hb i List.mem_cons_self)) (rvs_put h2 hl S.len h3) q
        exact ⟨by simp [k1], ρ', k2, k3⟩
theorem gNames_go : ∀ (is : List Nat) {xs : List V} {σ : L2.St} {Q : L2.St → Hp → Prop}, is.length = xs.length → Q (setSt is xs σ) H → gNames is xs σ H Q
  | [], [], σ, Q, _, q => ⟨rfl, q⟩
  | [], _ :: _, _, _, h, _ => by simp at h
  | _ :: _, [], _, _, h, _ => by simp at h
  | i :: is, x :: xs, σ, Q, h, q => ⟨x, xs, rfl, gNames_go is (by simpa using h) q⟩
theorem par_go (wm : WM W) {is : List Nat} {ms : List (M Val)} (hb : ∀ i ∈ is, ∀ q ∈ C.Bs, q.1 ≠ i) (q : rdS C W (sPar is ms) D σ H) {R : List V → Hp → Prop}
    (i : ∀ F ρ ρ' xs H', Sim C F ρ σ H' → is.length = xs.length → Sim C F ρ' (setSt is xs σ) H' → (∀ F' H', Same F F' → Sim C F' ρ' (setSt is xs σ) H' → D.nx (setSt is xs σ) H') → R xs H') : rdTs C W (temps ms) σ H R := by
  obtain ⟨F, ρ, S, q⟩ := q
  have q := Pst.bnd.mp q
  refine ⟨C.Z, F, ρ, S, q.imp fun vs ρ1 q F1 H1 xs s1 S1 rs => ?_⟩
  have q := Pst.bnd.mp (Pst.mono wm s1 q)
  obtain ⟨k1, ρ', k2, k3⟩ := setAll_go (ρ0 := fun _ => True) is hb S1 rs q
  exact i F1 ρ1 ρ' xs H1 S1 k1 k3 fun F' H' s' S' => k2 F' _ H' (s1.trans s') S'
theorem szTup {xs : List V} (h : xs.length ≤ 1000) : xs.length ≤ sizeLine := Nat.le_trans h (by decide)
/-- by a new tuple -/
theorem parT_go (wm : WM W) (hK : C.K = X.K) {is : List Nat} {ms : List (M Val)} {k : Nat} (hk : k = is.length) (hl : is.length ≤ 1000) (hb : ∀ i ∈ is, ∀ q ∈ C.Bs, q.1 ≠ i) (q : rdS C W (sPar is ms) D σ H) : tAsg (tTup (rdTs C W (temps ms))) (gTup X.K k (gNames is)) D σ H := by
  subst hk
  refine par_go wm hb q fun F ρ ρ' xs H' S e S' kn => ⟨szTup (by rw [← e]; exact hl), fun p hp => ⟨p, xs, rfl, .inl (.inl upd_same), e.symm, gNames_go is e ?_⟩⟩
  exact kn F _ (Same.refl F) (S'.laid hp (szTup (by rw [← e]; exact hl)))
theorem par2_go (wm : WM W) {i j : Nat} {ms : List (M Val)} (hb : ∀ k ∈ [i, j], ∀ q ∈ C.Bs, q.1 ≠ k) (q : rdS C W (sPar [i, j] ms) D σ H) : tPar i j (rdTs C W (temps ms)) D σ H := by
  refine par_go wm hb q fun F ρ ρ' xs H' S e S' kn => ?_
  match xs, e with
  | [x, y], _ => exact ⟨x, y, rfl, kn F _ (Same.refl F) S'⟩
theorem par3_go (wm : WM W) {i j l : Nat} {ms : List (M Val)} (hb : ∀ k ∈ [i, j, l], ∀ q ∈ C.Bs, q.1 ≠ k) (q : rdS C W (sPar [i, j, l] ms) D σ H) : tPar3 i j l (rdTs C W (temps ms)) D σ H := by
  refine par_go wm hb q fun F ρ ρ' xs H' S e S' kn => ?_
  match xs, e with
  | [x, y, z], _ => exact ⟨x, y, z, rfl, kn F _ (Same.refl F) S'⟩

/-! ### loops -/
theorem for_go (wm : WM W) {it : M (List FK.D)} {t : Tgt} (q : rdS C W (sFor it t b) D σ H) : tFor (rdI C W it) (rdG C W t) (rdS C W b) D σ H := by
  obtain ⟨F, ρ, S, q⟩ := q
  have q := Pst.bnd.mp q
  refine ⟨F, ρ, S, q.imp fun ds ρ1 q F1 H1 J s1 S1 wk => ?_⟩
  let At : Nat → L2.St → Hp → Prop := fun i σ H => ∃ F2 ρi, Same F1 F2 ∧ Sim C F2 ρi σ H ∧ Pst W F2 σ (forL t b (ds.drop i) ρi) (PF C F2 D)
  refine ⟨fun i m σ H => m = ds.length - i ∧ i ≤ ds.length ∧ At i σ H, ⟨ds.length, by omega, Nat.zero_le _, F1, ρ1, Same.refl F1, S1, ?_⟩, ?_⟩
  · rw [List.drop_zero]
    exact (Pst.mono wm s1 q).imp fun f ρ2 q => PF.mono s1 q
  rintro i m σ2 H2 ⟨rfl, hi, F2, ρi, s2, S2, hp⟩
  by_cases hlt : i < ds.length
  · refine .inr ⟨wk.goes i H2 hlt fun a o k => S2.sub _ _ (s2 _ _ k), At (i + 1), fun σ' H' hA => ⟨ds.length - (i + 1), by omega, rfl, hlt, hA⟩, fun x H' hy => ?_⟩
    have hdrop : ds.drop i = ds[i] :: ds.drop (i + 1) := List.drop_eq_getElem_cons hlt
    rw [hdrop] at hp
    have hx := wk.yields i H2 x H' ds[i] (List.getElem?_eq_getElem hlt) (fun a o k => S2.sub _ _ (s2 _ _ k)) hy
    obtain ⟨F3, s3, S3, hdx⟩ : ∃ F3, Same F2 F3 ∧ Sim C F3 ρi σ2 H' ∧ Dp C.K F3 x ds[i] := by
      rcases hx with ⟨rfl, hx⟩ | ⟨T, zs, ds', rfl, hT, rfl, hd', hz, hzl⟩
      · exact ⟨F2, Same.refl F2, S2, dp_mono s2 _ _ hx⟩
      · obtain ⟨S4, k⟩ := S2.tup hT (dps_mono s2 _ _ hz) hzl
        rw [hd']
        exact ⟨_, same_new (S2.free hT), S4, k⟩
    unfold forL at hp
    have hp := Pst.bnd.mp (Pst.mono wm s3 hp)
    refine ⟨F3, ρi, ds[i], S3, hdx, hp.imp fun _ ρa hp F4 σ4 H4 s4 S4 _ _ => ?_⟩
    have hp := Pst.bnd.mp (Pst.monoS (σ' := σ4) wm s4 hp)
    refine ⟨F4, ρa, S4, hp.imp fun f ρb hp => ?_⟩
    have sm : Same F1 F4 := (s2.trans s3).trans s4
    cases f with
    | nx => exact fun F5 σ5 H5 s5 S5 => ⟨F5, ρb, sm.trans s5, S5, (Pst.monoS wm s5 hp).imp fun f ρ2 q => PF.mono ((s3.trans s4).trans s5) q⟩
    | ct => exact fun F5 σ5 H5 s5 S5 => ⟨F5, ρb, sm.trans s5, S5, (Pst.monoS wm s5 hp).imp fun f ρ2 q => PF.mono ((s3.trans s4).trans s5) q⟩
    | bk => exact fun F5 σ5 H5 s5 S5 => (show PF C F2 D .nx ρb from hp) F5 σ5 H5 ((s3.trans s4).trans s5) S5
    | rt v => exact fun F5 σ5 H5 x s5 S5 r => (show PF C F2 D (.rt v) ρb from hp) F5 σ5 H5 x ((s3.trans s4).trans s5) S5 r
  · have hie : i = ds.length := by omega
    subst hie
    rw [List.drop_length] at hp
    exact .inl ⟨wk.stops H2 fun a o k => S2.sub _ _ (s2 _ _ k), (show PF C F2 D .nx ρi from hp) F2 σ2 H2 (Same.refl F2) S2⟩
theorem while_go (wm : WM W) {c : M Bool} {n : Nat} (q : rdS C W (whileL c b n) D σ H) : tWhile (rdT C W c) (rdS C W b) D σ H := by
  obtain ⟨F, ρ, S, q⟩ := q
  refine ⟨fun m σ H => ∃ F2 ρi, Same F F2 ∧ Sim C F2 ρi σ H ∧ Pst W F2 σ (whileL c b m ρi) (PF C F2 D), ⟨n, F, ρ, Same.refl F, S, q⟩, ?_⟩
  rintro m σ2 H2 ⟨F2, ρi, s2, S2, hp⟩
  cases m with
  | zero => exact False.elim hp
  | succ m =>
    unfold whileL at hp
    have hp := Pst.bnd.mp hp
    refine ⟨F2, ρi, S2, hp.imp fun k ρa hp F3 H3 s3 S3 => ?_⟩
    cases k with
    | false => exact (show PF C F2 D .nx ρa from hp) F3 σ2 H3 s3 S3
    | true =>
      rw [if_pos rfl]
      rw [if_pos rfl] at hp
      refine ⟨fun σ' H' => ∃ F4 ρb, Same F F4 ∧ Sim C F4 ρb σ' H' ∧ Pst W F4 σ' (whileL c b m ρb) (PF C F4 D), fun σ' H' hA => ⟨m, Nat.lt_succ_self m, hA⟩, ?_⟩
      have hp := Pst.bnd.mp (Pst.mono wm s3 hp)
      refine ⟨F3, ρa, S3, hp.imp fun f ρb hp => ?_⟩
      cases f with
      | nx => exact fun F5 σ5 H5 s5 S5 => ⟨F5, ρb, (s2.trans s3).trans s5, S5, (Pst.monoS wm s5 hp).imp fun f ρ2 q => PF.mono (s3.trans s5) q⟩
      | ct => exact fun F5 σ5 H5 s5 S5 => ⟨F5, ρb, (s2.trans s3).trans s5, S5, (Pst.monoS wm s5 hp).imp fun f ρ2 q => PF.mono (s3.trans s5) q⟩
      | bk => exact fun F5 σ5 H5 s5 S5 => (show PF C F2 D .nx ρb from hp) F5 σ5 H5 (s3.trans s5) S5
      | rt v => exact fun F5 σ5 H5 x s5 S5 r => (show PF C F2 D (.rt v) ρb from hp) F5 σ5 H5 x (s3.trans s5) S5 r

/-! ### lists changed -/
theorem chk_of {i : Nat} {F : Hp} {ρ : Rho} {k : Unit → Rho → Prop} (h : Pst W F σ (chk i ρ) k) : (∃ ds, ρ[i]? = some (some (.ow ds))) ∧ k () ρ := by
  unfold chk at h
  cases e : ρ[i]? with
  | none => rw [e] at h; exact False.elim h
  | some o =>
    cases o with
    | none => rw [e] at h; exact False.elim h
    | some v =>
      cases v with
      | fz d => rw [e] at h; exact False.elim h
      | ow ds => rw [e] at h; exact ⟨⟨ds, rfl⟩, h⟩
theorem chg_of {α : Type} {i : Nat} {F : Hp} {ρ : Rho} {f : List FK.D → Option (α × List FK.D)} {k : α → Rho → Prop} (h : Pst W F σ (chg i f ρ) k) : ∃ ds a es, ρ[i]? = some (some (.ow ds)) ∧ f ds = some (a, es) ∧ k a (ρ.set i (some (.ow es))) := by
  unfold chg at h
  cases e : ρ[i]? with
  | none => rw [e] at h; exact False.elim h
  | some o =>
    cases o with
    | none => rw [e] at h; exact False.elim h
    | some v =>
      cases v with
      | fz d => rw [e] at h; exact False.elim h
      | ow ds =>
        rw [e] at h
        cases e2 : f ds with
        | none => simp only [e2] at h; exact False.elim h
        | some p => simp only [e2] at h; exact ⟨ds, p.1, p.2, rfl, e2, h⟩
theorem app_go (wm : WM W) (hK : C.K = X.K) {i : Nat} (q : rdS C W (sApp i m) D σ H) : tDrop (tBM X.K "list" rAppend (tVar i) (tCons (rd C W m) tNil)) D σ H := by
  obtain ⟨F, ρ, S, q⟩ := q
  have q := Pst.bnd.mp q
  obtain ⟨⟨ds, e⟩, q⟩ := chk_of q
  obtain ⟨p, xs, h1, h2, h3, h4, h5⟩ := S.ow i ds e
  refine ⟨.ref p, h1, .inl ⟨rfl, xs, .inl (.inl h3)⟩, F, ρ, S, (Pst.bnd.mp q).imp fun v ρ1 q F1 H1 x s1 S1 r => ?_⟩
  obtain ⟨F2, s2, S2, d2⟩ := S1.freeze r
  have q := Pst.bnd.mp q
  obtain ⟨ds', u, es, e1, e2, q⟩ := chg_of q
  obtain ⟨p', ys, g1, g2, g3, g4, g5⟩ := S2.ow i ds' e1
  rw [h1] at g1
  cases g1
  unfold appD at e2
  split at e2
  · rename_i hz
    cases e2
    have hl := dps_length g4
    have hz' : ds'.length < sizeLine := by rw [PySem.sizeLine_eq]; exact hz
    refine ⟨p, ys, x, rfl, rfl, g3, by omega, ?_⟩
    exact q F2 σ _ (s1.trans s2) (S2.change e1 h1 (dps_append g4 (.cons d2 .nil)) (by rw [List.length_append]; exact hz'))
  · cases e2
theorem ins_go (wm : WM W) (hK : C.K = X.K) {i : Nat} (q : rdS C W (sIns i m n) D σ H) : tDrop (tBM X.K "list" (fun x vs H Q => ∃ (l : Addr) (xs : List V) (i : Int) (y : V), x = .ref l ∧ vs = [.int i, y] ∧ H l = some (.lst xs) ∧ xs.length < sizeLine ∧ 0 ≤ i ∧ i < 2 ^ 63 ∧
    Q .non (upd H l (.lst (xs.take i.toNat ++ [y] ++ xs.drop i.toNat)))) (tVar i) (tCons (rd C W m) (tCons (rd C W n) tNil))) D σ H := by
  obtain ⟨F, ρ, S, q⟩ := q
  have q := Pst.bnd.mp q
  obtain ⟨⟨ds, e⟩, q⟩ := chk_of q
  obtain ⟨p, xs, h1, h2, h3, h4, h5⟩ := S.ow i ds e
  refine ⟨.ref p, h1, .inl ⟨rfl, xs, .inl (.inl h3)⟩, F, ρ, S, (Pst.bnd.mp q).imp fun v ρ1 q F1 H1 x s1 S1 r => ?_⟩
  obtain ⟨F2, s2, S2, d2⟩ := S1.freeze r
  have q := Pst.bnd.mp (Pst.mono wm (s1.trans s2) q)
  refine ⟨F2, ρ1, S2, q.imp fun w ρ2 q F3 H3 y s3 S3 r3 => ?_⟩
  obtain ⟨F4, s4, S4, d4⟩ := S3.freeze r3
  have q := Pst.bnd.mp q
  obtain ⟨ds', u, es, e1, e2, q⟩ := chg_of q
  obtain ⟨p', ys, g1, g2, g3, g4, g5⟩ := S4.ow i ds' e1
  rw [h1] at g1
  cases g1
  unfold insD at e2
  split at e2
  · rename_i j hv
    split at e2
    · rename_i hz
      cases e2
      rw [hv] at d2
      cases d2
      have hl := dps_length g4
      have hz' : ds'.length < sizeLine := by rw [PySem.sizeLine_eq]; exact hz.2.2
      refine ⟨p, ys, j, y, rfl, rfl, g3, by omega, hz.1, by omega, ?_⟩
      have hd : DpAll C.K F4 (ys.take j.toNat ++ [y] ++ ys.drop j.toNat) (ds'.take j.toNat ++ w.data :: ds'.drop j.toNat) := by
        rw [List.append_assoc]
        exact dps_append (dps_take _ g4) (.cons d4 (dps_drop _ g4))
      exact q F4 σ _ (((s1.trans s2).trans s3).trans s4) (S4.change e1 h1 hd (by rw [List.length_append, List.length_take, List.length_cons, List.length_drop]; omega))
    · cases e2
  · cases e2
theorem putAt_of {d k : FK.D} {ds es : List FK.D} {u : Unit} (h : putAt d k ds = some (u, es)) : ∃ i j, k = .int i ∧ ixN ds.length i = some j ∧ es = ds.set j d := by
  unfold putAt at h
  split at h
  · obtain ⟨j, h1, h2⟩ := Option.map_eq_some_iff.mp h
    cases h2
    exact ⟨_, j, rfl, h1, rfl⟩
  · cases h
theorem item_go (wm : WM W) {i : Nat} (q : rdS C W (sItem i n m) D σ H) : tAsg (rd C W m) (gSub (tVar i) (rd C W n) rSetL) D σ H := by
  obtain ⟨F, ρ, S, q⟩ := q
  refine ⟨F, ρ, S, (Pst.bnd.mp q).imp fun v ρ1 q F1 H1 x s1 S1 r => ?_⟩
  obtain ⟨F2, s2, S2, d2⟩ := S1.freeze r
  have q := Pst.bnd.mp (Pst.mono wm (s1.trans s2) q)
  obtain ⟨⟨ds, e⟩, q⟩ := chk_of q
  obtain ⟨p, xs, h1, h2, h3, h4, h5⟩ := S2.ow i ds e
  refine ⟨.ref p, h1, F2, ρ1, S2, (Pst.bnd.mp q).imp fun w ρ2 q F3 H3 y s3 S3 r3 => ?_⟩
  obtain ⟨F4, s4, S4, d4⟩ := S3.freeze r3
  have q := Pst.bnd.mp q
  obtain ⟨ds', u, es, e1, e2, q⟩ := chg_of q
  obtain ⟨p', ys, g1, g2, g3, g4, g5⟩ := S4.ow i ds' e1
  rw [h1] at g1
  cases g1
  obtain ⟨k, j, hk, hj, rfl⟩ := putAt_of e2
  rw [hk] at d4
  cases d4
  have hz : ds'.length ≤ sizeLine := by rw [← dps_length g4]; exact S4.sz _ _ g3
  refine ⟨p, ys, k, j, rfl, rfl, g3, by rw [dps_length g4]; exact hj, ?_⟩
  exact q F4 σ _ (((s1.trans s2).trans s3).trans s4) (S4.change e1 h1 (dps_set j g4 (dp_mono (s3.trans s4) _ _ d2)) (by rw [List.length_set]; exact hz))
theorem aug_go (wm : WM W) {op : Int → Int → Int} {i : Nat} (hb : ∀ q ∈ C.Bs, q.1 ≠ i) (q : rdS C W (sAug i op m) D σ H) : tAug i (rd C W m) (ipI op) D σ H := by
  obtain ⟨F, ρ, S, q⟩ := q
  unfold sAug at q
  split at q
  · rename_i a e
    obtain ⟨x, h1, h2⟩ := S.fz _ _ e
    cases h2
    refine ⟨.int a, h1, F, ρ, S, (Pst.bnd.mp q).imp fun v ρ1 q F1 H1 x s1 S1 r => ?_⟩
    obtain ⟨F2, s2, S2, d2⟩ := S1.freeze r
    obtain ⟨d, hd⟩ : ∃ d, v.data = d := ⟨_, rfl⟩
    rw [hd] at q d2
    cases d with
    | int b =>
      cases d2
      have q := Pst.bnd.mp q
      obtain ⟨_, q⟩ := setS_ok (α := Unit) q
      exact ⟨a, b, rfl, rfl, q F2 _ H1 (s1.trans s2) (S2.put (v := .fz (.int (op a b))) (.int _) hb)⟩
    | none => exact False.elim q
    | bool _ => exact False.elim q
    | str _ => exact False.elim q
    | list _ => exact False.elim q
    | tuple _ => exact False.elim q
    | dict _ => exact False.elim q
  · exact False.elim q
/-- the item of a list, for x[k] op= e -/
def rGetL (K : PySem.W.Frag) : V → V → Hp → VK → Prop := fun o i H Q => ∃ p xs k z, o = .ref p ∧ i = .int k ∧ SqL K H p xs ∧ atI xs k = some z ∧ Q z H
theorem get_listL : PGet X (rGetL X.K) := by
  intro pins s σ H o i ov iv Q I ro ri h
  obtain ⟨p, xs, k, z, rfl, rfl, hq, he, q⟩ := h
  cases ro
  obtain ⟨t, rfl⟩ := ri
  obtain ⟨its, r, pl, hz⟩ := I.list hq
  obtain ⟨j, h1, h2, h3, h4, h5⟩ := atI_get he
  obtain ⟨w, ew, rw'⟩ := r.get h2
  have hl : xs.length = its.length := r.length
  have hn := line63
  have fin : EP X pins σ Q w s := ⟨z, H, I, rw', q⟩
  by_cases h0 : 0 ≤ k
  · have hj : k.toNat = j := by
      rw [seqIndex_of h0 h5] at h1
      exact Option.some.inj h1
    exact wpAny_getItem_list pl.isList h0 (by omega) (by rw [hj]; simpa using ew) fin
  · have hj : (k + (its.toArray.size : Int)).toNat = j := by
      rw [seqIndex_neg (by omega) h4] at h1
      rw [List.size_toArray, ← hl]
      exact Option.some.inj h1
    exact wpAny_getItem_list_neg pl.isList (by omega) (by rw [List.size_toArray] <;> omega) (by omega) (by rw [hj]; simpa using ew) fin
theorem augI_go (wm : WM W) (hK : C.K = X.K) {op : Int → Int → Int} {i : Nat} (q : rdS C W (sAugI i op n m) D σ H) : tAugS (tVar i) (rd C W n) (rd C W m) (rGetL X.K) (ipI op) rSetL D σ H := by
  obtain ⟨F, ρ, S, q⟩ := q
  have q := Pst.bnd.mp q
  obtain ⟨⟨ds, e⟩, q⟩ := chk_of q
  obtain ⟨p, xs, h1, h2, h3, h4, h5⟩ := S.ow i ds e
  refine ⟨.ref p, h1, F, ρ, S, (Pst.bnd.mp q).imp fun w ρ1 q F1 H1 y s1 S1 r => ?_⟩
  obtain ⟨F2, s2, S2, d2⟩ := S1.freeze r
  have q := Pst.mono wm (s1.trans s2) q
  split at q
  · rename_i ds1 e1
    split at q
    · rename_i k hk
      split at q
      · rename_i a ha
        obtain ⟨p', ys, g1, g2, g3, g4, g5⟩ := S2.ow i ds1 e1
        rw [h1] at g1
        cases g1
        rw [hk] at d2
        cases d2
        obtain ⟨z, k1, k2⟩ := atI_of g4 (by unfold getAt at ha; exact ha)
        cases k2
        refine ⟨p, ys, k, _, rfl, rfl, .inl (.inl g3), k1, F2, ρ1, S2, (Pst.bnd.mp q).imp fun v ρ2 q F3 H3 x s3 S3 r3 => ?_⟩
        obtain ⟨F4, s4, S4, d4⟩ := S3.freeze r3
        obtain ⟨d, hd⟩ : ∃ d, v.data = d := ⟨_, rfl⟩
        rw [hd] at q d4
        cases d with
        | int b =>
          cases d4
          have q := Pst.bnd.mp q
          obtain ⟨ds', u, es, e3, e2, q⟩ := chg_of q
          obtain ⟨p', zs, m1, m2, m3, m4, m5⟩ := S4.ow i ds' e3
          rw [h1] at m1
          cases m1
          obtain ⟨k', j, hk', hj, rfl⟩ := putAt_of e2
          cases hk'
          have hz : ds'.length ≤ sizeLine := by rw [← dps_length m4]; exact S4.sz _ _ m3
          refine ⟨a, b, rfl, rfl, p, zs, k, j, rfl, rfl, m3, by rw [dps_length m4]; exact hj, ?_⟩
          exact q F4 σ _ (((s1.trans s2).trans s3).trans s4) (S4.change e3 h1 (dps_set j m4 (.int _)) (by rw [List.length_set]; exact hz))
        | none => exact False.elim q
        | bool _ => exact False.elim q
        | str _ => exact False.elim q
        | list _ => exact False.elim q
        | tuple _ => exact False.elim q
        | dict _ => exact False.elim q
      · exact False.elim q
    · exact False.elim q
  · exact False.elim q
end
end FK

/-! FkE3: defs and their calls. -/
namespace FK
open PySem L2 PyProof.Rows

/-- a def's promise where no repr runs around it -/
structure FnG (P : Program) (w : World) (K : PySem.W.Frag) (mg : Str → Option Value) (base : Heap) (CX : CXT) (k : Nat) (f : Addr) (fd : FuncData) (ps : List Str) (sp : Sp) : Prop where
  len : ∀ vs H Q E, sp vs H Q E → vs.length = ps.length
  run : ∀ (A : Around) (outer : List Env) (s : Shared) (H : Hp) (args : Args) (us : List Value) (vs : List V) (Q : VK) (E : XK), A.guards = some [] → Room k A → Env0 P w K mg base A outer s H → BindsTo s fd args (ps.zip us) → Vals vs us →
    sp vs H Q E → codeAny (model P w) A (.call (.ref f) args) (CR CX outer P w H s Q E) s
theorem FnG.up {P : Program} {w : World} {K : PySem.W.Frag} {mg : Str → Option Value} {base : Heap} {CX : CXT} {j k : Nat} {f : Addr} {fd : FuncData} {ps : List Str} {sp : Sp} (F : FnG P w K mg base CX j f fd ps sp) (h : j ≤ k) : FnG P w K mg base CX k f fd ps sp :=
  ⟨F.len, fun A outer s H args us vs Q E hg hr e0 hb r q => F.run A outer s H args us vs Q E hg (hr.mono h) e0 hb r q⟩

/-- what is handed in -/
def argsV : Option (List D) → List D → List Val
  | none, ds => ds.map .fz
  | some bs, ds => .ow bs :: ds.map .fz
def Pre (K : PySem.W.Frag) (F H : Hp) : Option (List D) → List D → List V → Option Addr → Prop
  | none, ds, vs, none => DpAll K F vs ds
  | some bs, ds, vs, some p => ∃ xs vs', vs = .ref p :: vs' ∧ F p = none ∧ H p = some (.lst xs) ∧ DpAll K F xs bs ∧ DpAll K F vs' ds
  | _, _, _, _ => False
def PostB (K : PySem.W.Frag) (F' H' : Hp) : Option (List D) → Option Addr → Prop
  | some bs, some p => ∃ xs, F' p = none ∧ H' p = some (.lst xs) ∧ DpAll K F' xs bs
  | none, none => True
  | _, _ => False
def RVx (K : PySem.W.Frag) (F' H H' : Hp) (v : Val) (x : V) : Prop :=
  match v with
  | .fz d => Dp K F' x d
  | .ow ds => ∃ p xs, x = .ref p ∧ F' p = none ∧ H' p = some (.lst xs) ∧ DpAll K F' xs ds ∧ H p = none
def spOf (K : PySem.W.Frag) (fe : FnE) : Sp := fun vs H Q _ => vs.length = fe.np ∧ ∃ F ob ds op, ob.isSome = fe.br ∧ Same F H ∧ HSz H ∧ Pre K F H ob ds vs op ∧
  match fe.f (argsV ob ds) with
  | .ok v o => ∀ F' H' x, Same F F' → Same F' H' → HSz H' → (∀ a u, H a = some u → op ≠ some a → H' a = some u) → (∀ a, F' a ≠ none → F a ≠ none ∨ H a = none) → PostB K F' H' o op → RVx K F' H H' v x → Q x H'
  | _ => False

section
variable {K : PySem.W.Frag} {F H : Hp}
theorem start_get {N : List Str} {vs : List V} (h : vs.length ≤ N.length) (i : Nat) : (L2.start N vs)[i]? = if i < vs.length then vs[i]?.map some else if i < N.length then some none else none := by
  unfold L2.start
  by_cases hi : i < vs.length
  · rw [if_pos hi, List.getElem?_append_left (by simpa using hi), List.getElem?_map]
  · rw [if_neg hi, List.getElem?_append_right (by simpa using hi), List.getElem?_replicate, List.length_map]
    by_cases h2 : i < N.length
    · rw [if_pos h2, if_pos (by omega)]
    · rw [if_neg h2, if_neg (by omega)]
theorem rho_get {args : List Val} {n : Nat} (h : args.length ≤ n) (i : Nat) : (args.map some ++ List.replicate (n - args.length) (none : Option Val))[i]? = if i < args.length then args[i]?.map some else if i < n then some none else none := by
  by_cases hi : i < args.length
  · rw [if_pos hi, List.getElem?_append_left (by simpa using hi), List.getElem?_map]
  · rw [if_neg hi, List.getElem?_append_right (by simpa using hi), List.getElem?_replicate, List.length_map]
    by_cases h2 : i < n
    · rw [if_pos h2, if_pos (by omega)]
    · rw [if_neg h2, if_neg (by omega)]
/-- where a def begins -/
def ctOf (K : PySem.W.Frag) (H F : Hp) (op : Option Addr) : Ct := { K := K, H0 := H, F0 := F, Bs := match op with | some p => [(0, p)] | none => [], Z := fun _ => none }
theorem sim_start {N : List Str} {ob : Option (List FK.D)} {ds : List FK.D} {vs : List V} {op : Option Addr} (hp : Pre K F H ob ds vs op) (hs : Same F H) (hz : HSz H) (hn : vs.length ≤ N.length) :
    Sim (ctOf K H F op) F ((argsV ob ds).map some ++ List.replicate (N.length - (argsV ob ds).length) none) (L2.start N vs) H := by
  have hl : (argsV ob ds).length = vs.length := by
    cases ob with
    | none =>
      cases op with
      | none => simp [argsV, dps_length hp]
      | some p => exact hp.elim
    | some bs =>
      cases op with
      | none => exact hp.elim
      | some p =>
        obtain ⟨xs, vs', rfl, _, _, _, h⟩ := hp
        simp [argsV, dps_length h]
  have hn' : (argsV ob ds).length ≤ N.length := by omega
  have len : ((argsV ob ds).map some ++ List.replicate (N.length - (argsV ob ds).length) (none : Option Val)).length = N.length := by simp; omega
  have lenσ : (L2.start N vs).length = N.length := by unfold L2.start; simp; omega
  have val : ∀ (i : Nat) (v : Val), ((argsV ob ds).map some ++ List.replicate (N.length - (argsV ob ds).length) (none : Option Val))[i]? = some (some v) → i < vs.length ∧ (argsV ob ds)[i]? = some v := fun i v e => by
    rw [rho_get hn'] at e
    split at e
    · rename_i hi
      rw [hl] at hi
      refine ⟨hi, ?_⟩
      cases q : (argsV ob ds)[i]? with
      | none => rw [q] at e; cases e
      | some u => rw [q] at e; cases e; rfl
    · split at e <;> cases e
  have sval : ∀ (i : Nat) (x : V), vs[i]? = some x → (L2.start N vs)[i]? = some (some x) := fun i x e => by
    rw [start_get hn, if_pos (List.getElem?_eq_some_iff.mp e).1, e]
    rfl
  refine ⟨by rw [len, lenσ], hs, hz, fun i d e => ?_, fun i es e => ?_, fun i j es fs p ne e1 e2 => ?_, fun q hq => ?_, fun q hq => ?_, fun a o e _ => e, Same.refl F, fun a e => .inl e, fun a o e => (by cases e)⟩
  · obtain ⟨hi, e⟩ := val i _ e
    cases ob with
    | none =>
      cases op with
      | some p => exact hp.elim
      | none =>
        have e' : (ds.map Val.fz)[i]? = some (.fz d) := e
        rw [List.getElem?_map] at e'
        obtain ⟨d', h1, h2⟩ := Option.map_eq_some_iff.mp e'
        cases h2
        obtain ⟨x, h3, h4⟩ := dps_get hp h1
        exact ⟨x, sval i x h3, h4⟩
    | some bs =>
      cases op with
      | none => exact hp.elim
      | some p =>
        obtain ⟨xs, vs', rfl, _, _, _, h⟩ := hp
        cases i with
        | zero => simp [argsV] at e
        | succ i =>
          have e' : (ds.map Val.fz)[i]? = some (.fz d) := by simpa [argsV] using e
          rw [List.getElem?_map] at e'
          obtain ⟨d', h1, h2⟩ := Option.map_eq_some_iff.mp e'
          cases h2
          obtain ⟨x, h3, h4⟩ := dps_get h h1
          exact ⟨x, sval (i + 1) x (by simpa using h3), h4⟩
  · obtain ⟨hi, e⟩ := val i _ e
    cases ob with
    | none =>
      have e' : (ds.map Val.fz)[i]? = some (.ow es) := e
      rw [List.getElem?_map] at e'
      obtain ⟨d', h1, h2⟩ := Option.map_eq_some_iff.mp e'
      cases h2
    | some bs =>
      cases op with
      | none => exact hp.elim
      | some p =>
        obtain ⟨xs, vs', rfl, h1, h2, h3, h⟩ := hp
        cases i with
        | zero =>
          have : es = bs := by simpa [argsV] using e.symm
          subst this
          exact ⟨p, xs, sval 0 _ rfl, h1, h2, h3, .inl List.mem_cons_self⟩
        | succ i =>
          have e' : (ds.map Val.fz)[i]? = some (.ow es) := by simpa [argsV] using e
          rw [List.getElem?_map] at e'
          obtain ⟨d', h1, h2⟩ := Option.map_eq_some_iff.mp e'
          cases h2
  · have zero : ∀ (i : Nat) (es : List FK.D), ((argsV ob ds).map some ++ List.replicate (N.length - (argsV ob ds).length) (none : Option Val))[i]? = some (some (.ow es)) → i = 0 := fun i es e => by
      obtain ⟨hi, e⟩ := val i _ e
      cases ob with
      | none =>
        have e' : (ds.map Val.fz)[i]? = some (.ow es) := e
        rw [List.getElem?_map] at e'
        obtain ⟨d', h1, h2⟩ := Option.map_eq_some_iff.mp e'
        cases h2
      | some bs =>
        cases i with
        | zero => rfl
        | succ i =>
          have e' : (ds.map Val.fz)[i]? = some (.ow es) := by simpa [argsV] using e
          rw [List.getElem?_map] at e'
          obtain ⟨d', h1, h2⟩ := Option.map_eq_some_iff.mp e'
          cases h2
    exact absurd ((zero i es e1).trans (zero j fs e2).symm) ne
  · cases op with
    | none => cases hq
    | some p =>
      cases ob with
      | none => exact hp.elim
      | some bs =>
        obtain ⟨xs, vs', rfl, _⟩ := hp
        have : q = (0, p) := List.mem_singleton.mp hq
        subst this
        exact sval 0 _ rfl
  · cases op with
    | none => cases hq
    | some p =>
      cases ob with
      | none => exact hp.elim
      | some bs =>
        obtain ⟨xs, vs', rfl, h1, h2, _⟩ := hp
        have : q = (0, p) := List.mem_singleton.mp hq
        subst this
        show H p ≠ none
        rw [h2]
        simp
end

section
variable {P : Program} {w : World} {K : PySem.W.Frag} {mg : Str → Option Value} {base : Heap} {CX : CXT}
/-- a body's end is the def's promise -/
theorem body_go {N : List Str} {fe : FnE} {m : MS} {vs : List V} {H : Hp} {Q : VK} {E : XK} (hf : fe.f = fnOf N.length m) (hn : vs.length ≤ N.length) (h : spOf K fe vs H Q E) : ∃ F op, (fe.br = false → op = none) ∧ rdS (ctOf K H F op) WF m { nx := fun _ H' => Q .non H', rt := Q } (L2.start N vs) H := by
  obtain ⟨hl, F, ob, ds, op, hb, hs, hz, hp, q⟩ := h
  refine ⟨F, op, fun e => ?_, F, _, sim_start hp hs hz hn, ?_⟩
  · rw [e] at hb
    cases ob with
    | none =>
      cases op with
      | none => rfl
      | some p => exact hp.elim
    | some bs => cases hb
  rw [hf] at q
  unfold fnOf at q
  cases e : m ((argsV ob ds).map some ++ List.replicate (N.length - (argsV ob ds).length) none) with
  | bad => rw [e] at q; exact False.elim q
  | exc c es ρ =>
    rw [e] at q
    cases e2 : out0 (argsV ob ds) ρ with
    | none => simp only [e2] at q
    | some o => simp only [e2] at q
  | ok f ρ =>
    rw [e] at q
    cases e2 : out0 (argsV ob ds) ρ with
    | none => simp only [e2] at q
    | some o =>
      simp only [e2] at q
      -- the list handed in, at the end
      have outs : ∀ {F' : Hp} {σ' : L2.St} {H' : Hp}, Sim (ctOf K H F op) F' ρ σ' H' → PostB K F' H' o op ∧ ∀ p, op = some p → F' p = none := fun {F' σ' H'} S => by
        cases ob with
        | none =>
          cases op with
          | some p => exact hp.elim
          | none =>
            have : o = none := by
              cases ds with
              | nil => simp [argsV, out0] at e2; exact e2.symm
              | cons d ds => simp [argsV, out0] at e2; exact e2.symm
            subst this
            exact ⟨trivial, fun p h => nomatch h⟩
        | some bs =>
          cases op with
          | none => exact hp.elim
          | some p =>
            cases ρ with
            | nil => simp [argsV, out0] at e2
            | cons r ρ =>
              cases r with
              | none => simp [argsV, out0] at e2
              | some v =>
                cases v with
                | fz d => simp [argsV, out0] at e2
                | ow es =>
                  have : o = some es := by simpa [argsV, out0] using e2.symm
                  subst this
                  obtain ⟨p', xs, h1, h2, h3, h4, _⟩ := S.ow 0 es rfl
                  have hb := S.brs (0, p) List.mem_cons_self
                  have : p' = p := by
                    have := h1.symm.trans hb
                    cases this
                    rfl
                  subst this
                  exact ⟨⟨xs, h2, h3, h4⟩, fun q hq => by cases hq; exact h2⟩
      have fin : ∀ {F' : Hp} {σ' : L2.St} {H' : Hp} {v : Val} {x : V}, (∀ F' H' x, Same F F' → Same F' H' → HSz H' → (∀ a u, H a = some u → op ≠ some a → H' a = some u) → (∀ a, F' a ≠ none → F a ≠ none ∨ H a = none) → PostB K F' H' o op → RVx K F' H H' v x → Q x H') →
          Same F F' → Sim (ctOf K H F op) F' ρ σ' H' → RVx K F' H H' v x → Q x H' := fun {F' σ' H' v x} q s S r => by
        obtain ⟨o1, o2⟩ := outs S
        refine q F' H' x s S.sub S.sz (fun a u ha hne => S.ext a u ha fun z hz => ?_) (fun a ha => ?_) o1 r
        · cases op with
          | none => cases hz
          | some p =>
            have : z = (0, p) := List.mem_singleton.mp hz
            subst this
            exact fun h => hne (by rw [← h])
        · rcases S.new a ha with h | h | ⟨z, hz, h⟩
          · exact .inl h
          · exact .inr h
          · cases op with
            | none => cases hz
            | some p =>
              have : z = (0, p) := List.mem_singleton.mp hz
              subst this
              exact absurd (o2 a (by rw [← h])) ha
      cases f with
      | nx => exact fun F' σ' H' s S => fin q s S .non
      | bk => exact False.elim q
      | ct => exact False.elim q
      | rt v =>
        refine fun F' σ' H' x s S r => fin q s S ?_
        cases v with
        | fz d => exact r
        | ow es =>
          obtain ⟨p, xs, h1, h2, h3, h4, h5⟩ := r
          exact ⟨p, xs, h1, h2, h3, h4, h5⟩

/-- THE RULE for a def, by its body -/
theorem fnG_of {k : Nat} {x qual : Str} {st : Stmt} {f : Addr} {fd : FuncData} {N ps : List Str} {fe : FnE} {m : MS} (Fu : Fun K x qual st f fd) (S : FnScope N ps (defScope st)) (hf : fe.f = fnOf N.length m) (hnp : fe.np = ps.length)
    (hbody : ∀ (cdv : Value) (A : Around) (outer : List Env) (s : Shared) (H : Hp) (C : Ct), A.guards = some [] → A.handled = none → Room k (A.deeper (envOfC qual (defScope st) s.heap.objs.size f cdv)) → C.K = K → (∀ q ∈ C.Bs, q.1 = 0 ∧ fe.br = true) →
      PSs (cxOf CX P w K mg base N qual (defScope st) f cdv A outer s H fun _ _ _ => False).nox (defBody st) (rdS C WF m)) : FnG P w K mg base CX (k + 1) f fd ps (spOf K fe) := by
  obtain ⟨oc, od, kV, doc, pm, an, cdv, ct, osl, rfl, lk, hcd⟩ := Fu.ex
  have hlen : ∀ vs H Q E, spOf K fe vs H Q E → vs.length = ps.length := fun vs H Q E h => h.1.trans hnp
  have hps : ps.length ≤ N.length := by
    have := congrArg List.length S.pre
    rw [List.length_take] at this
    omega
  refine ⟨hlen, fun A outer s H args us vs Q E hg hr e0 hb r hsp => ?_⟩
  have l0 := hlen _ _ _ _ hsp
  have old : ∀ b o, base.get? b = some o → s.heap.get? b = some o := fun b o e => (e0.bs b o e).1
  have KX : K.In s.heap := e0.mod.kin.keeps old
  have kinds : ∀ y ∈ ps.zip us, (defScope st).names.lookup y.1 = some .local ∨ ((defScope st).names.lookup y.1 = some .cell ∧ ((cellsFrom (s.heap.objs.size + 1) (defScope st).names []).lookup y.1).isSome = true) := by
    intro y hy
    have hm : y.1 ∈ ps := (List.of_mem_zip (show (y.1, y.2) ∈ ps.zip us from hy)).1
    exact (S.par y.1 hm).imp id fun q => ⟨q, PySem.W.cellsFrom_some _ _ _ (.inl q)⟩
  have crec := PySem.W.codeRec_of KX hcd
  refine codeAny_call_function hr.depth (KX f _ lk) rfl S.co S.gen rfl crec (hb _ _ _ _ (wpAny_newFunctionEnv_cells S.kind kinds fun env he s1 hx => ?_))
  subst he
  refine ⟨(e0.mod.nolimit.keeps old).keeps hx.toInCall.keep, codeAny_func ?_⟩
  obtain ⟨F, op, hop, hq⟩ := body_go (N := N) (m := m) hf (by omega) hsp
  have bd := (hbody cdv A outer s H (ctOf K H F op) hg hr.hd (hr.deeper _) rfl fun q hq => by
    cases op with
    | none => cases hq
    | some p =>
      have e : q = (0, p) := List.mem_singleton.mp hq
      subst e
      refine ⟨rfl, ?_⟩
      cases hbr : fe.br with
      | true => rfl
      | false => cases hop hbr)
  have I := (inv_start (CX := CX) (E := fun _ _ _ => False) S hr.hd e0 l0 r hx).wish fun _ _ => False
  refine wpAny_mono (bd.run [] s1 (L2.start N vs) H _ I hq) (fun fl s2 h2 => ?_) fun _ _ z => z.elim
  have fin : ∀ {σ2 : L2.St} {H2 : Hp} {v : V} {u : Value}, Inv (cxOf CX P w K mg base N qual (defScope st) f cdv A outer s H fun _ _ _ => False).nox [] σ2 H2 s2 → RelV v u → Q v H2 → CE outer P w H s Q u s2 :=
    fun {σ2 H2 v u} J rv q => ⟨v, H2, J.os, J.bare, J.base, J.hok, rv, q⟩
  cases fl with
  | next =>
    obtain ⟨σ2, H2, J, q⟩ := h2
    exact fin (v := V.non) (u := Value.none) J rfl q
  | ret u =>
    obtain ⟨v, σ2, H2, J, rv, q⟩ := h2
    exact fin J rv q
  | brk =>
    obtain ⟨_, _, _, z⟩ := h2
    exact z.elim
  | cont =>
    obtain ⟨_, _, _, z⟩ := h2
    exact z.elim
end

/-! ### calls -/
section
variable {X : Cx} {C : Ct} {W : Wish} {e : Expr} {es : List Expr} {p pos : Pos} {CX : CXT} {k : Nat} {f : Addr} {fd : FuncData} {ps : List Str} {fe : FnE} {x : Str}
/-- a call of a def that lets nothing out -/
theorem call_go (F : FnG X.prog X.w X.K X.mg X.base CX k f fd ps (spOf X.K fe)) (hgd : X.A.guards = some []) (hr : Room k X.A) (hb : Binds X.K fd ps []) (hCX : ∀ outer H s e s', CX outer H s (fun _ _ _ => False) e s' → False)
    {pins : List (Addr × Obj)} {σ : L2.St} {H : Hp} {s : Shared} {Q : VK} {us : List Value} {vs : List V} (I : Inv X pins σ H s) (r : Vals vs us) (h : spOf X.K fe vs H Q (fun _ _ _ => False)) : wpAny (model X.prog X.w) X.A (call (.ref f) us) (EP X pins σ Q) X.xe s := by
  have hl : (us ++ ([] : List Value)).length = ps.length := by
    rw [List.append_nil]
    exact (Vals.length r).symm.trans (F.len _ _ _ _ h)
  have bd := hb s us I.kIn hl
  rw [List.append_nil] at bd
  refine wpAny_call (codeAny_mono (F.run X.A X.stack s H ⟨us, []⟩ us vs Q (fun _ _ _ => False) hgd hr I.env0 bd r h) fun res s2 h2 => ?_)
  cases res with
  | error ex => exact (hCX _ _ _ _ _ h2).elim
  | ok fl =>
    cases fl with
    | ret u => exact I.after h2
    | next => exact h2.elim
    | brk => exact h2.elim
    | cont => exact h2.elim
/-- the reading of a call -/
def tCallF (fe : FnE) (K : PySem.W.Frag) (t : TA) : TE := fun σ H Q => t σ H fun vs H1 => spOf K fe vs H1 Q fun _ _ _ => False
theorem pe_callF (F : FnG X.prog X.w X.K X.mg X.base CX k f fd ps (spOf X.K fe)) (hgd : X.A.guards = some []) (hr : Room k X.A) (hg : Gl X x) (hm : X.mg x = some (.ref f)) (hk : PySem.W.keepIn X.K (.ref f) = true) (hb : Binds X.K fd ps [])
    (hCX : ∀ outer H s e s', CX outer H s (fun _ _ _ => False) e s' → False) {t : TA} (ha : PA X (e :: es) t) (hd : (x == ("__debug__" : Str)) = false) (h1 : starEach (e :: es) X.env = (false, eval e X.env) :: starEach es X.env) (h2 : (backTo pos (starEach es X.env)).any (·.1) = false) :
    PE X (.Call (.Name x p) (e :: es) [] pos) (tCallF fe X.K t) := by
  refine ⟨fun pins s σ H Q I q => wpAny_Call_Name_kw (ld_glob I hg hm ?_ hd)⟩
  have run := ha.run pos pins s σ H _ I q
  refine PySem.W.callWith_K (h₀ := X.base) I.ok.mod.kin hk (thn run fun us s1 hv => ?_) h1 h2
  obtain ⟨vs, H1, I1, r, q1⟩ := hv
  exact ⟨I1.kIn, call_go F hgd hr hb hCX I1 r q1⟩
theorem pe_callF0 (F : FnG X.prog X.w X.K X.mg X.base CX k f fd ps (spOf X.K fe)) (hgd : X.A.guards = some []) (hr : Room k X.A) (hg : Gl X x) (hm : X.mg x = some (.ref f)) (hk : PySem.W.keepIn X.K (.ref f) = true) (hb : Binds X.K fd ps [])
    (hCX : ∀ outer H s e s', CX outer H s (fun _ _ _ => False) e s' → False) (hd : (x == ("__debug__" : Str)) = false) : PE X (.Call (.Name x p) [] [] pos) (tCallF fe X.K tNil) := by
  refine ⟨fun pins s σ H Q I q => wpAny_Call_Name_kw (ld_glob I hg hm ?_ hd)⟩
  exact PySem.W.callWith_K0 I.kIn hk (call_go (us := []) F hgd hr hb hCX I .nil q)
theorem callF_go (wm : WM W) (hK : C.K = X.K) (hbr : fe.br = false) {as : List (Bool × M Val)} {σ : L2.St} {H : Hp} {Q : VK} (q : rd C W (mCall fe as) σ H Q) : tCallF fe X.K (tItems C W as) σ H Q := by
  obtain ⟨F, ρ, S, q⟩ := q
  refine items_go wm as S q fun F1 H1 xs ds ρ1 s1 S1 hd h1 => ?_
  split at h1
  · rename_i hlen
    refine ⟨by rw [dps_length hd, hlen], F1, none, ds, none, hbr.symm, S1.sub, S1.sz, by rw [← hK]; exact hd, ?_⟩
    show match fe.f (ds.map Val.fz) with | .ok v o => _ | _ => _
    cases e2 : fe.f (ds.map Val.fz) with
    | bad => rw [e2] at h1; exact h1
    | exc c es o => rw [e2] at h1; exact False.elim h1
    | ok v o =>
      rw [e2] at h1
      intro F' H' y sm sub sz fr nw pb rv
      have fr' : ∀ a u, H1 a = some u → H' a = some u := fun a u h => fr a u h (fun z => nomatch z)
      have keep : ∀ a, F1 a = none → H1 a ≠ none → F' a = none := fun a h1 h2 => by
        cases q : F' a with
        | none => rfl
        | some u =>
          rcases nw a (by rw [q]; simp) with z | z
          · exact absurd h1 z
          · exact absurd z h2
      have S2 : Sim C F' ρ1 σ H' := ⟨S1.len, sub, sz, fun i d h => by
          obtain ⟨x, k1, k2⟩ := S1.fz i d h
          exact ⟨x, k1, dp_mono sm _ _ k2⟩, fun i es h => by
          obtain ⟨p, zs, k1, k2, k3, k4, k5⟩ := S1.ow i es h
          exact ⟨p, zs, k1, keep p k2 (by rw [k3]; simp), fr' _ _ k3, dps_mono sm _ _ k4, k5⟩, S1.dist, S1.brs, fun q hq h => (by
          have := S1.bt q hq
          cases z : H1 q.2 with
          | none => exact this z
          | some u => rw [fr' _ _ z] at h; cases h), fun a u h hb => fr' _ _ (S1.ext a u h hb), S1.f0.trans sm, fun a h => (by
          rcases nw a h with z | z
          · exact S1.new a z
          · exact .inr (.inl (S1.free0 z))), fun a u h => by
          obtain ⟨k1, k2, k3⟩ := S1.zp a u h
          exact ⟨fr' _ _ k1, keep a k2 (by rw [k1]; simp), k3⟩⟩
      refine h1 F' H' y (s1.trans sm) S2 ?_
      cases v with
      | fz d =>
        show Dp C.K F' y d
        rw [hK]
        exact rv
      | ow es =>
        obtain ⟨p, zs, rfl, k1, k2, k3, k4⟩ := rv
        refine ⟨p, zs, rfl, k1, k2, by rw [hK]; exact k3, S1.free0 k4, S1.freeZ k4, fun i fs h => ?_⟩
        obtain ⟨q, ws, g1, g2, g3, _⟩ := S1.ow i fs h
        rw [g1]
        intro z
        cases z
        rw [k4] at g3; cases g3
  · exact False.elim h1
theorem fe_call (wm : WM W) (hK : C.K = X.K) (hbr : fe.br = false) (F : FnG X.prog X.w X.K X.mg X.base CX k f fd ps (spOf X.K fe)) (hgd : X.A.guards = some []) (hr : Room k X.A) (hg : Gl X x) (hm : X.mg x = some (.ref f)) (hk : PySem.W.keepIn X.K (.ref f) = true) (hb : Binds X.K fd ps [])
    (hCX : ∀ outer H s e s', CX outer H s (fun _ _ _ => False) e s' → False) {as : List (Bool × M Val)} (ha : PA X (e :: es) (tItems C W as)) (hd : (x == ("__debug__" : Str)) = false) (h1 : starEach (e :: es) X.env = (false, eval e X.env) :: starEach es X.env) (h2 : (backTo pos (starEach es X.env)).any (·.1) = false) :
    PE X (.Call (.Name x p) (e :: es) [] pos) (rd C W (mCall fe as)) := PE.imp (pe_callF F hgd hr hg hm hk hb hCX ha hd h1 h2) fun σ H Q q => callF_go wm hK hbr q
theorem fe_call0 (wm : WM W) (hK : C.K = X.K) (hbr : fe.br = false) (F : FnG X.prog X.w X.K X.mg X.base CX k f fd ps (spOf X.K fe)) (hgd : X.A.guards = some []) (hr : Room k X.A) (hg : Gl X x) (hm : X.mg x = some (.ref f)) (hk : PySem.W.keepIn X.K (.ref f) = true) (hb : Binds X.K fd ps [])
    (hCX : ∀ outer H s e s', CX outer H s (fun _ _ _ => False) e s' → False) (hd : (x == ("__debug__" : Str)) = false) :
    PE X (.Call (.Name x p) [] [] pos) (rd C W (mCall fe [])) := PE.imp (pe_callF0 F hgd hr hg hm hk hb hCX hd) fun σ H Q q => callF_go wm hK hbr q
/-- a list handed in to be changed -/
theorem callR_go (wm : WM W) (hK : C.K = X.K) (hbr : fe.br = true) {i : Nat} {as : List (Bool × M Val)} {σ : L2.St} {H : Hp} {Q : VK} (q : rd C W (mCallR fe i as) σ H Q) : tCallF fe X.K (tCons (tVar i) (tItems C W as)) σ H Q := by
  obtain ⟨F, ρ, S, q⟩ := q
  have q := Pst.bnd.mp q
  obtain ⟨⟨bs0, e0⟩, q⟩ := chk_of q
  obtain ⟨p0, xs0, a1, a2, a3, a4, a5⟩ := S.ow i bs0 e0
  refine ⟨.ref p0, a1, ?_⟩
  refine items_go wm as S q fun F1 H1 xs ds ρ1 s1 S1 hd h1 => ?_
  split at h1
  case isFalse => exact False.elim h1
  rename_i hlen
  split at h1
  case h_2 => exact False.elim h1
  rename_i bs e1
  obtain ⟨p, ys, g1, g2, g3, g4, g5⟩ := S1.ow i bs e1
  rw [a1] at g1
  cases g1
  refine ⟨by rw [List.length_cons, dps_length hd, hlen], F1, some bs, ds, some p0, hbr.symm, S1.sub, S1.sz, ⟨ys, xs, rfl, g2, g3, by rw [← hK]; exact g4, by rw [← hK]; exact hd⟩, ?_⟩
  show match fe.f (Val.ow bs :: ds.map Val.fz) with | .ok v o => _ | _ => _
  cases e2 : fe.f (Val.ow bs :: ds.map Val.fz) with
  | bad => rw [e2] at h1; exact h1
  | exc c es o => rw [e2] at h1; exact False.elim h1
  | ok v o =>
    rw [e2] at h1
    cases o with
    | none => exact False.elim h1
    | some bs' =>
    intro F' H' y sm sub sz fr nw pb rv
    obtain ⟨zs, b1, b2, b3⟩ := pb
    rw [← hK] at b3
    have fr' : ∀ a u, H1 a = some u → a ≠ p0 → H' a = some u := fun a u h ne => fr a u h (fun z => ne (by cases z; rfl))
    have keep : ∀ a, F1 a = none → H1 a ≠ none → F' a = none := fun a h1 h2 => by
      cases q : F' a with
      | none => rfl
      | some u =>
        rcases nw a (by rw [q]; simp) with z | z
        · exact absurd h1 z
        · exact absurd z h2
    have hi : i < ρ1.length := (List.getElem?_eq_some_iff.mp e1).1
    have back : ∀ {j : Nat} {v : Val}, i ≠ j → (ρ1.set i (some (.ow bs')))[j]? = some (some v) → ρ1[j]? = some (some v) := fun {j v} ij e' => by
      rw [List.getElem?_set_ne ij] at e'; exact e'
    have isow : ∀ {j : Nat} {fs : List FK.D}, (ρ1.set i (some (.ow bs')))[j]? = some (some (.ow fs)) → ∃ gs, ρ1[j]? = some (some (.ow gs)) := fun {j fs} e' => by
      by_cases ij : i = j
      · subst ij; exact ⟨bs, e1⟩
      · exact ⟨fs, back ij e'⟩
    have S2 : Sim C F' (ρ1.set i (some (.ow bs'))) σ H' := ⟨by rw [List.length_set]; exact S1.len, sub, sz, fun j d h => by
        by_cases ij : i = j
        · subst ij
          rw [List.getElem?_set_self hi] at h; cases h
        · obtain ⟨x, k1, k2⟩ := S1.fz j d (back ij h)
          exact ⟨x, k1, dp_mono sm _ _ k2⟩, fun j es h => by
        by_cases ij : i = j
        · subst ij
          rw [List.getElem?_set_self hi] at h; cases h
          exact ⟨p0, zs, a1, b1, b2, b3, g5⟩
        · obtain ⟨q, ws, k1, k2, k3, k4, k5⟩ := S1.ow j es (back ij h)
          have ne : q ≠ p0 := fun z => S1.dist i j bs es p0 ij e1 (back ij h) a1 (by rw [k1, z])
          exact ⟨q, ws, k1, keep q k2 (by rw [k3]; simp), fr' _ _ k3 ne, dps_mono sm _ _ k4, k5⟩, fun j l es fs q ne f1 f2 => by
        obtain ⟨gs1, f1⟩ := isow f1
        obtain ⟨gs2, f2⟩ := isow f2
        exact S1.dist j l gs1 gs2 q ne f1 f2, S1.brs, fun q hq h => (by
        have := S1.bt q hq
        by_cases z : q.2 = p0
        · rw [z, b2] at h; cases h
        · cases z2 : H1 q.2 with
          | none => exact this z2
          | some u => rw [fr' _ _ z2 z] at h; cases h), fun a u h hb => (by
        have ne : a ≠ p0 := fun z => by
          rcases g5 with k | k
          · exact hb _ k z.symm
          · rw [z, k] at h; cases h
        exact fr' _ _ (S1.ext a u h hb) ne), S1.f0.trans sm, fun a h => (by
        rcases nw a h with z | z
        · exact S1.new a z
        · exact .inr (.inl (S1.free0 z))), fun a u h => by
        obtain ⟨k1, k2, k3⟩ := S1.zp a u h
        have ne : a ≠ p0 := fun z => k3 i bs e1 (by rw [z]; exact a1)
        refine ⟨fr' _ _ k1 ne, keep a k2 (by rw [k1]; simp), fun j es f => ?_⟩
        obtain ⟨gs, f⟩ := isow f
        exact k3 j gs f⟩
    refine h1 F' H' y (s1.trans sm) S2 ?_
    cases v with
    | fz d =>
      show Dp C.K F' y d
      rw [hK]
      exact rv
    | ow es =>
      obtain ⟨q, ws, rfl, k1, k2, k3, k4⟩ := rv
      refine ⟨q, ws, rfl, k1, k2, by rw [hK]; exact k3, S1.free0 k4, S1.freeZ k4, fun j fs h => ?_⟩
      obtain ⟨gs, h⟩ := isow h
      obtain ⟨q', ws', l1, l2, l3, _⟩ := S1.ow j gs h
      rw [l1]
      intro z
      cases z
      rw [k4] at l3; cases l3
theorem fe_callR (wm : WM W) (hK : C.K = X.K) (hbr : fe.br = true) {i : Nat} (F : FnG X.prog X.w X.K X.mg X.base CX k f fd ps (spOf X.K fe)) (hgd : X.A.guards = some []) (hr : Room k X.A) (hg : Gl X x) (hm : X.mg x = some (.ref f)) (hk : PySem.W.keepIn X.K (.ref f) = true) (hb : Binds X.K fd ps [])
    (hCX : ∀ outer H s e s', CX outer H s (fun _ _ _ => False) e s' → False) {as : List (Bool × M Val)} (he : PE X e (tVar i)) (ha : PA X es (tItems C W as)) (hd : (x == ("__debug__" : Str)) = false) (h1 : starEach (e :: es) X.env = (false, eval e X.env) :: starEach es X.env) (h2 : (backTo pos (starEach es X.env)).any (·.1) = false) :
    PE X (.Call (.Name x p) (e :: es) [] pos) (rd C W (mCallR fe i as)) := PE.imp (pe_callF F hgd hr hg hm hk hb hCX (pa_cons he ha h1) hd h1 h2) fun σ H Q q => callR_go wm hK hbr q
end
end FK

/-! FkF: from the text of a def to its meaning; each meaning carries that it is the machine's. -/
namespace FK
open PySem L2 PyProof.Rows

structure TC where
  N : List Str
  sc : Scope
  /-- names whose cells are this block's own -/
  fn : Str → Bool
  br : Bool
  Φ : Str → Option FnE
def bins : List Str := ["len", "int", "abs", "max", "min", "tuple", "list", "any", "all", "repr", "range", "enumerate", "zip"]
structure XOk (tc : TC) (X : Cx) : Prop where
  N : X.N = tc.N
  sc : X.env.scope = tc.sc
  fn : ∀ x, tc.fn x = true → X.fn x = true
  nd : X.N.Nodup
  calm : X.calm = true
  bi : ∀ b ∈ bins, X.mg b = none
  gd : X.A.guards = some []
  un : X.A.units + 65 < cLine
  pas : PassesOwn (model X.prog X.w) X.A X.env X.xe
  kind : X.env.scope.kind = .function
  calls : ∀ g fe, tc.Φ g = some fe → ∃ (CX : CXT) (k : Nat) (f : Addr) (fd : FuncData) (ps : List Str), FnG X.prog X.w X.K X.mg X.base CX k f fd ps (spOf X.K fe) ∧ Room k X.A ∧ X.mg g = some (.ref f) ∧ PySem.W.keepIn X.K (.ref f) = true ∧ Binds X.K fd ps [] ∧
    ∀ outer H s e s', CX outer H s (fun _ _ _ => False) e s' → False
structure Hyp (tc : TC) (X : Cx) (C : Ct) (W : Wish) : Prop where
  ok : XOk tc X
  K : C.K = X.K
  bs : ∀ q ∈ C.Bs, q.1 = 0 ∧ tc.br = true
  wm : WM W
abbrev GE (tc : TC) (e : Expr) (m : M Val) : Prop := ∀ X C W, Hyp tc X C W → PE X e (rd C W m)
abbrev GO (tc : TC) (e : Expr) (o : Opd) : Prop := ∀ X C W, Hyp tc X C W → PE X e (rdO C W o)
abbrev GT (tc : TC) (e : Expr) (m : M Bool) : Prop := ∀ X C W, Hyp tc X C W → PT X e (rdT C W m)
abbrev GA (tc : TC) (es : List Expr) (os : List Opd) : Prop := ∀ X C W, Hyp tc X C W → PA X es (tOpds C W os)
abbrev GIs (tc : TC) (es : List Expr) (ms : List (Bool × M Val)) : Prop := ∀ X C W, Hyp tc X C W → PA X es (tItems C W ms)
abbrev GTs (tc : TC) (es : List Expr) (ms : List (M Val)) : Prop := ∀ X C W, Hyp tc X C W → PA X es (rdTs C W (temps ms))
abbrev GIt (tc : TC) (tg e : Expr) (it : M (List D)) : Prop := ∀ X C W, Hyp tc X C W → PI X tg e (rdI C W it)
abbrev GG (tc : TC) (e : Expr) (t : Tgt) : Prop := ∀ X C W, Hyp tc X C W → PG X e (rdG C W t)
structure GGs (tc : TC) (es : List Expr) (ts : List Tgt) : Prop where
  pg : ∀ X C W, Hyp tc X C W → PGs X es (rdGs C W ts)
  len : ∀ env, (assignEach es env).length = ts.length
  no : ∀ env, (assignEach es env).findIdx? (·.1) = none
abbrev GS (tc : TC) (s : Stmt) (m : MS) : Prop := ∀ X C W, Hyp tc X C W → PS X s (rdS C W m)
abbrev GSs (tc : TC) (ss : List Stmt) (m : MS) : Prop := ∀ X C W, Hyp tc X C W → PSs X ss (rdS C W m)

/-! ### looking at the text -/
def ixS : List Str → Str → Option Nat
  | [], _ => none
  | y :: ys, x => if y == x then some 0 else (ixS ys x).map (· + 1)
theorem ixS_get : ∀ {N : List Str} {x : Str} {i : Nat}, ixS N x = some i → N[i]? = some x
  | [], _, _, h => by cases h
  | y :: ys, x, i, h => by
    unfold ixS at h
    split at h
    · rename_i e
      cases h
      simpa using e
    · obtain ⟨j, h1, h2⟩ := Option.map_eq_some_iff.mp h
      subst h2
      simpa using ixS_get h1
def isVis (sc : Scope) (x : Str) : Bool := decide (sc.names.lookup x = some .local) || (decide (sc.names.lookup x = some .cell) || decide (sc.names.lookup x = some .free))
theorem isVis_of {sc : Scope} {x : Str} (h : isVis sc x = true) : Vis sc x := by
  unfold isVis at h
  rw [Bool.or_eq_true, Bool.or_eq_true, decide_eq_true_iff, decide_eq_true_iff, decide_eq_true_iff] at h
  exact h
def plain (x : Str) : Bool := !(x == ("__debug__" : Str)) && (!(x == ("__classdict__" : Str)) && !decide (x = ("__name__" : Str)))
theorem plain_of {x : Str} (h : plain x = true) : (x == ("__debug__" : Str)) = false ∧ (x == ("__classdict__" : Str)) = false ∧ x ≠ ("__name__" : Str) := by
  unfold plain at h
  rw [Bool.and_eq_true, Bool.and_eq_true, Bool.not_eq_true', Bool.not_eq_true', Bool.not_eq_true', decide_eq_false_iff_not] at h
  exact h
def slot (tc : TC) (x : Str) (p : Pos) : Option { i : Nat // ∀ X, XOk tc X → PE X (.Name x p) (tVar i) } :=
  match hi : ixS tc.N x with
  | none => none
  | some i => if h : isVis tc.sc x = true ∧ plain x = true then
      some ⟨i, fun X ok => pe_var (by rw [ok.N]; exact ixS_get hi) (by rw [ok.sc]; exact isVis_of h.1) (plain_of h.2).1 (plain_of h.2).2.1⟩
    else none
/-- a slot that may be stored -/
def okS (tc : TC) (i : Nat) : Bool := !(tc.br && decide (i = 0))
theorem okS_of {tc : TC} {i : Nat} {X : Cx} {C : Ct} {W : Wish} (h : okS tc i = true) (hy : Hyp tc X C W) : ∀ q ∈ C.Bs, q.1 ≠ i := fun q hq e => by
  obtain ⟨h0, hb⟩ := hy.bs q hq
  unfold okS at h
  rw [hb, ← e, h0] at h
  simp at h
structure Sto (tc : TC) (x : Str) (i : Nat) : Prop where
  ix : ixS tc.N x = some i
  st : decide (tc.sc.names.lookup x = some .local) = true ∨ (decide (tc.sc.names.lookup x = some .cell) = true ∧ tc.fn x = true)
  ok : okS tc i = true
def stor (tc : TC) (x : Str) : Option { i : Nat // Sto tc x i } :=
  match hi : ixS tc.N x with
  | none => none
  | some i => if h : (decide (tc.sc.names.lookup x = some .local) = true ∨ (decide (tc.sc.names.lookup x = some .cell) = true ∧ tc.fn x = true)) ∧ okS tc i = true then some ⟨i, hi, h.1, h.2⟩ else none
section
variable {tc : TC} {x : Str} {i : Nat} {X : Cx} {C : Ct} {W : Wish}
theorem Sto.at (s : Sto tc x i) (ok : XOk tc X) : X.N[i]? = some x := by rw [ok.N]; exact ixS_get s.ix
theorem Sto.loc (s : Sto tc x i) (ok : XOk tc X) : Loc X.env.scope x := by
  rw [ok.sc]
  rcases s.st with h | ⟨h, _⟩
  · exact .inl (of_decide_eq_true h)
  · exact .inr (of_decide_eq_true h)
theorem Sto.fn (s : Sto tc x i) (ok : XOk tc X) : X.fn x = true ∨ X.env.scope.names.lookup x = some .local := by
  rcases s.st with h | ⟨_, h⟩
  · exact .inr (by rw [ok.sc]; exact of_decide_eq_true h)
  · exact .inl (ok.fn x h)
end
def isGl (sc : Scope) (x : Str) : Bool := decide (sc.names.lookup x = some .globalImplicit)
theorem isGl_of {tc : TC} {X : Cx} {x : Str} (h : isGl tc.sc x = true) (ok : XOk tc X) : Gl X x := by
  show X.env.scope.names.lookup x = _
  rw [ok.sc]
  exact of_decide_eq_true h

/-- what an expression is not -/
structure NoStar (e : Expr) : Prop where
  se : ∀ es env, starEach (e :: es) env = (false, eval e env) :: starEach es env
  ae : ∀ es env, assignEach (e :: es) env = (false, assign e env) :: assignEach es env
def noStar (e : Expr) : Option (PLift (NoStar e)) := match e with
  | .Starred _ _ => none
  | .BoolOp .. | .NamedExpr .. | .BinOp .. | .UnaryOp .. | .Lambda .. | .IfExp .. | .Dict .. | .Set .. | .ListComp .. | .SetComp .. | .DictComp .. | .GeneratorExp .. | .Await .. | .Yield .. | .YieldFrom .. | .Compare .. | .Call .. | .FormattedValue .. | .JoinedStr .. | .Constant .. | .Attribute .. | .Subscript .. | .Name .. | .List .. | .Tuple .. | .Slice .. =>
    some ⟨⟨fun _ _ => rfl, fun _ _ => rfl⟩⟩
structure NoComp (e : Expr) : Prop where
  sole : ∀ tg line env, swapsWithSole [tg] e line env = pure false
  none : ∀ line env, swapsWith e none line env = pure false
  set : ∀ env x, foldedSetIterable e env x = pure x
def noComp (e : Expr) : Option (PLift (NoComp e)) := match e with
  | .ListComp .. | .SetComp .. | .DictComp .. | .Set .. => none
  | .BoolOp .. | .NamedExpr .. | .BinOp .. | .UnaryOp .. | .Lambda .. | .IfExp .. | .Dict .. | .GeneratorExp .. | .Await .. | .Yield .. | .YieldFrom .. | .Compare .. | .Call .. | .FormattedValue .. | .JoinedStr .. | .Constant .. | .Attribute .. | .Subscript .. | .Starred .. | .Name .. | .List .. | .Tuple .. | .Slice .. =>
    some ⟨⟨fun _ _ _ => rfl, fun _ _ => rfl, fun _ _ => rfl⟩⟩
theorem sub_sole (o i : Expr) (p : Pos) (e : Expr) (line : Nat) (env : Env) : swapsWithSole [.Subscript o i p] e line env = pure false := by
  cases e <;> rfl
theorem tup_sole (ts : List Expr) (k : Nat) (p : Pos) (e : Expr) (line : Nat) (env : Env) : swapsWithSole [.Tuple ts k p] e line env = pure false := by
  cases e <;> rfl
structure NoTup (e : Expr) : Prop where
  sw : ∀ ts k p env, swappedStores [.Tuple ts k p] e env = pure none
def noTup (e : Expr) : Option (PLift (NoTup e)) := match e with
  | .Tuple .. => none
  | .ListComp .. | .SetComp .. | .DictComp .. | .Set .. | .BoolOp .. | .NamedExpr .. | .BinOp .. | .UnaryOp .. | .Lambda .. | .IfExp .. | .Dict .. | .GeneratorExp .. | .Await .. | .Yield .. | .YieldFrom .. | .Compare .. | .Call .. | .FormattedValue .. | .JoinedStr .. | .Constant .. | .Attribute .. | .Subscript .. | .Starred .. | .Name .. | .List .. | .Slice .. =>
    some ⟨⟨fun _ _ _ _ => rfl⟩⟩
def plainIx (e : Expr) : Option (PLift (PlainIx e)) := match e with
  | .Slice .. => none
  | .ListComp .. | .SetComp .. | .DictComp .. | .Set .. | .BoolOp .. | .NamedExpr .. | .BinOp .. | .UnaryOp .. | .Lambda .. | .IfExp .. | .Dict .. | .GeneratorExp .. | .Await .. | .Yield .. | .YieldFrom .. | .Compare .. | .Call .. | .FormattedValue .. | .JoinedStr .. | .Constant .. | .Attribute .. | .Subscript .. | .Starred .. | .Name .. | .List .. | .Tuple .. =>
    some ⟨fun _ _ => rfl⟩
theorem noMark (b : Expr) (op : CmpOp) (h : op ≠ .In) (h2 : op ≠ .NotIn) : behindInMarks op b = false := nomark b h h2
structure PlTest (e : Expr) : Prop where
  tr : ∀ env whole, isTrue e env whole = (do let v ← whole; standAt e.pos; holding [v] (truthy v))
def plTest (e : Expr) : Option (PLift (PlTest e)) := match e with
  | .UnaryOp .. | .BoolOp .. | .IfExp .. | .Compare .. => none
  | .Call .. => some ⟨⟨fun _ _ => rfl⟩⟩
  | .Name .. => some ⟨⟨fun _ _ => rfl⟩⟩
  | .Subscript .. => some ⟨⟨fun _ _ => rfl⟩⟩
  | .Constant .. => some ⟨⟨fun _ _ => rfl⟩⟩
  | _ => none
/-- a list without stars -/
def allPlain : (es : List Expr) → Option (PLift (∀ pos env, (backTo pos (starEach es env)).any (·.1) = false))
  | [] => some ⟨fun _ _ => rfl⟩
  | e :: es => match noStar e, allPlain es with
    | some h, some t => some ⟨fun pos env => by
        rw [h.down.se]
        show (false || (backTo pos (starEach es env)).any (·.1)) = false
        rw [Bool.false_or]
        exact t.down pos env⟩
    | _, _ => none

/-! ### one step of the reading -/
structure Rec where
  e : (tc : TC) → (e : Expr) → Option { m : M Val // GE tc e m }
  t : (tc : TC) → (e : Expr) → Option { m : M Bool // GT tc e m }
  ss : (tc : TC) → (ss : List Stmt) → Option { m : MS // GSs tc ss m }
variable (r : Rec)
def trO (tc : TC) (e : Expr) : Option { o : Opd // GO tc e o } :=
  match e with
  | .Name x p => (slot tc x p).map fun i => ⟨.nm i.1, fun X C W hy => fo_nm (i.2 X hy.ok)⟩
  | e => (r.e tc e).map fun m => ⟨.ex m.1, fun X C W hy => fo_ex (m.2 X C W hy)⟩
def trOs (tc : TC) : (es : List Expr) → Option { os : List Opd // GA tc es os }
  | [] => some ⟨[], fun X C W hy => pa_nil⟩
  | e :: es => match noStar e, trO r tc e, trOs tc es with
    | some h, some o, some os => some ⟨o.1 :: os.1, fun X C W hy => pa_cons (o.2 X C W hy) (os.2 X C W hy) (h.down.se _ _)⟩
    | _, _, _ => none
def trIs (tc : TC) : (es : List Expr) → Option { ms : List (Bool × M Val) // GIs tc es ms }
  | [] => some ⟨[], fun X C W hy => pa_nil⟩
  | .Starred e p :: es => match r.e tc e, trIs tc es with
    | some m, some ms => some ⟨(true, m.1) :: ms.1, fun X C W hy => by
        have := StX.pa_star (X := X) (m.2 X C W hy) (ms.2 X C W hy) (p := p) rfl
        rw [← hy.K] at this
        exact this⟩
    | _, _ => none
  | e :: es => match noStar e, r.e tc e, trIs tc es with
    | some h, some m, some ms => some ⟨(false, m.1) :: ms.1, fun X C W hy => pa_cons (m.2 X C W hy) (ms.2 X C W hy) (h.down.se _ _)⟩
    | _, _, _ => none
theorem Hyp.wz {tc : TC} {X : Cx} {C : Ct} {W : Wish} (hy : Hyp tc X C W) (Z : Hp) : Hyp tc X (C.wz Z) W := ⟨hy.ok, hy.K, hy.bs, hy.wm⟩
def trTs (tc : TC) : (es : List Expr) → Option { ms : List (M Val) // GTs tc es ms }
  | [] => some ⟨[], fun X C W hy => fts_nil⟩
  | e :: es => match noStar e, r.e tc e, trTs tc es with
    | some h, some m, some ms => some ⟨m.1 :: ms.1, fun X C W hy => fts_cons hy.wm (fz_e fun Z => m.2 X (C.wz Z) W (hy.wz Z)) (ms.2 X C W hy) (h.down.se _ _)⟩
    | _, _, _ => none

/-! ### targets -/
mutual
def trG (tc : TC) : (e : Expr) → Option { t : Tgt // GG tc e t }
  | .Name x p => (stor tc x).map fun i => ⟨.nm i.1, fun X C W hy => fg_name hy.ok.nd (i.2.at hy.ok) (i.2.loc hy.ok) (i.2.fn hy.ok) (okS_of i.2.ok hy)⟩
  | .Tuple es k p => (trGs tc es).map fun ts => ⟨.tup ts.1, fun X C W hy => fg_tup hy.ok.calm hy.K (ts.2.pg X C W hy) (ts.2.len _) (ts.2.no _)⟩
  | _ => none
def trGs (tc : TC) : (es : List Expr) → Option { ts : List Tgt // GGs tc es ts }
  | [] => some ⟨[], fun X C W hy => fg_nil, fun _ => rfl, fun _ => rfl⟩
  | e :: es => match noStar e, trG tc e, trGs tc es with
    | some h, some t, some ts => some ⟨t.1 :: ts.1, fun X C W hy => fg_cons hy.wm (t.2 X C W hy) (ts.2.pg X C W hy) (by rw [h.down.ae]; rfl), fun env => by rw [h.down.ae, List.length_cons, List.length_cons, ts.2.len],
        fun env => by rw [h.down.ae, List.findIdx?_cons]; simp [ts.2.no env]⟩
    | _, _, _ => none
end

/-! ### what is walked -/
def trIt (tc : TC) (tg : Expr) (e : Expr) : Option { it : M (List D) // GIt tc tg e it } :=
  match e with
  | .Call (.Name "range" p) [a] [] pos =>
    match noStar a, trO r tc a with
    | some ha, some oa => if h : isGl tc.sc "range" = true then some ⟨itRng [oa.1], fun X C W hy => PI.imp (pi_range1 (isGl_of h hy.ok) (hy.ok.bi _ (by decide)) (pa_cons (oa.2 X C W hy) pa_nil (ha.down.se _ _)) (ha.down.se _ _)) fun σ H R q => rng1_go hy.wm q⟩ else none
    | _, _ => none
  | .Call (.Name "range" p) [a, b] [] pos =>
    match noStar a, noStar b, trO r tc a, trO r tc b with
    | some ha, some hb, some oa, some ob => if h : isGl tc.sc "range" = true then some ⟨itRng [oa.1, ob.1], fun X C W hy => PI.imp (pi_range2 (isGl_of h hy.ok) (hy.ok.bi _ (by decide)) (pa_cons (oa.2 X C W hy) (pa_cons (ob.2 X C W hy) pa_nil (hb.down.se _ _)) (ha.down.se _ _)) (by rw [ha.down.se, hb.down.se]; rfl) (hb.down.se _ _)) fun σ H R q => rng2_go hy.wm q⟩ else none
    | _, _, _, _ => none
  | .Call (.Name "range" p) [a, b, c] [] pos =>
    match noStar a, noStar b, noStar c, trO r tc a, trO r tc b, trO r tc c with
    | some ha, some hb, some hc, some oa, some ob, some oc => if h : isGl tc.sc "range" = true then some ⟨itRng [oa.1, ob.1, oc.1], fun X C W hy => PI.imp (pi_range3 (isGl_of h hy.ok) (hy.ok.bi _ (by decide)) (pa_cons (oa.2 X C W hy) (pa_cons (ob.2 X C W hy) (pa_cons (oc.2 X C W hy) pa_nil (hc.down.se _ _)) (hb.down.se _ _)) (ha.down.se _ _)) (by rw [ha.down.se]) (by rw [hb.down.se, hc.down.se]; rfl)) fun σ H R q => rng3_go hy.wm q⟩ else none
    | _, _, _, _, _, _ => none
  | .Call (.Name "enumerate" p) [a] [] pos =>
    match tg with
    | .Tuple elts kk tpos => match noStar a, r.e tc a with
      | some ha, some m => if h : isGl tc.sc "enumerate" = true then some ⟨itEnum m.1, fun X C W hy => fi_enum hy.wm hy.K (isGl_of h hy.ok) (hy.ok.bi _ (by decide)) (m.2 X C W hy) (ha.down.se _ _)⟩ else none
      | _, _ => none
    | _ => none
  | .Call (.Name "zip" p) [a, b] [] pos =>
    match tg with
    | .Tuple elts kk tpos => match noStar a, noStar b, r.e tc a, r.e tc b with
      | some ha, some hb, some m, some n => if h : isGl tc.sc "zip" = true then some ⟨itZip m.1 n.1, fun X C W hy => fi_zip hy.wm hy.K (isGl_of h hy.ok) (hy.ok.bi _ (by decide)) (m.2 X C W hy) (n.2 X C W hy) (ha.down.se _ _) (hb.down.se _ _) (by rw [hb.down.se]; rfl)⟩ else none
      | _, _, _, _ => none
    | _ => none
  | e => (r.e tc e).map fun m => ⟨itSeq m.1, fun X C W hy => fi_seq hy.wm hy.K (m.2 X C W hy)⟩
end FK

/-! FkF2: expressions, tests. -/
namespace FK
open PySem L2 PyProof.Rows

/-! ### a comprehension's block -/
def TC.blk (tc : TC) (scope : Scope) : TC := { tc with sc := relS scope tc.sc, fn := fun x => scope.names.lookup x == some .cell }
theorem XOk.blk {tc : TC} {X : Cx} {scope : Scope} (ok : XOk tc X) (hk : scope.kind = .function) (s : Shared) (H : Hp) (C : Addr) (cl : List (Str × Addr)) (fp : List Addr) : XOk (tc.blk scope) (X.blk s H scope (compEnvC scope cl C X.env) fp) where
  N := ok.N
  sc := by
    show relS scope X.env.scope = relS scope tc.sc
    rw [ok.sc]
  fn := fun x h => h
  nd := ok.nd
  calm := ok.calm
  bi := ok.bi
  gd := ok.gd
  un := ok.un
  pas := PassesOwn.never
  kind := hk
  calls := ok.calls
def ownOf (N : List Str) (scope : Scope) : List (Str × Nat) := scope.names.filterMap fun y => if y.2 = .local ∨ y.2 = .cell then (ixS N y.1).map fun i => (y.1, i) else none
def noIn (i : Nat) (vs : List Nat) : Bool := vs.all fun v => !decide (v = i)
theorem noIn_of {i : Nat} {vs : List Nat} (h : noIn i vs = true) : i ∉ vs := fun hm => by
  have := List.all_eq_true.mp h i hm
  simp at this
def subV (us vs : List Nat) : Bool := us.all fun u => decide (u ∈ vs)
theorem subV_of {us vs : List Nat} (h : subV us vs = true) : ∀ i ∈ us, i ∈ vs := fun i hi => of_decide_eq_true (List.all_eq_true.mp h i hi)
variable (r : Rec)
/-- the tests of a comprehension: none or one -/
def trC (tc : TC) (ifs : List Expr) : Option { m : M Bool // ∀ X C, Hyp tc X C WF → PTs X ifs (rdT C WF m) } :=
  match ifs with
  | [] => some ⟨mYes, fun X C hy => ⟨fun pins s σ H Q I ⟨F, ρ, S, q⟩ => pts_nil.run pins s σ H Q I (q F H (Same.refl F) S)⟩⟩
  | [c] => (r.t tc c).map fun m => ⟨m.1, fun X C hy => pts_one (m.2 X C WF hy)⟩
  | _ => none
structure CompP where
  vs : List Nat
  it : M (List D)
  t : Tgt
  c : M Bool
  e : M Val
/-- what a comprehension of one for needs -/
structure CompOk (tc : TC) (elt tg iter : Expr) (ifs : List Expr) (scope : Scope) (cp : CompP) : Prop where
  run : ∀ X C W, Hyp tc X C W → ∃ own : List (Str × Nat), own.map (·.2) = cp.vs ∧ PI X tg iter (rdI C W cp.it) ∧ BlkOk X.N X.env.scope scope own ∧
    (∀ (s : Shared) (H : Hp) (L : Addr) (cl : List (Str × Addr)) (fp : List Addr), PG (X.blk s H scope (compEnvC scope cl L X.env) fp) tg (rdGZ C cp.t)) ∧
    (∀ (s : Shared) (H : Hp) (L : Addr) (cl : List (Str × Addr)) (fp : List Addr), PTs (X.blk s H scope (compEnvC scope cl L X.env) fp) ifs (rdTZ C cp.c)) ∧
    (∀ (s : Shared) (H : Hp) (L : Addr) (cl : List (Str × Addr)) (fp : List Addr), PE (X.blk s H scope (compEnvC scope cl L X.env) fp) elt (rdZ C WF cp.e)) ∧
    (∀ x, foldedSetIterable iter X.env x = pure x) ∧ (∀ q ∈ C.Bs, q.1 ∉ cp.vs) ∧ ∀ i ∈ cp.t.slots, i ∈ cp.vs
def trComp (tc : TC) (elt tg iter : Expr) (ifs : List Expr) (scope : Scope) : Option { cp : CompP // CompOk tc elt tg iter ifs scope cp } :=
  match noComp iter, trIt r tc tg iter, trG (tc.blk scope) tg, trC r (tc.blk scope) ifs, r.e (tc.blk scope) elt with
  | some hi, some it, some t, some c, some e =>
    if h : blkC tc.N tc.sc scope (ownOf tc.N scope) = true ∧ (tc.br = false ∨ noIn 0 ((ownOf tc.N scope).map (·.2)) = true) ∧ subV t.1.slots ((ownOf tc.N scope).map (·.2)) = true then
      some ⟨⟨(ownOf tc.N scope).map (·.2), it.1, t.1, c.1, e.1⟩, ⟨fun X C W hy => by
        have bo : BlkOk tc.N tc.sc scope (ownOf tc.N scope) := blkOk_by h.1
        have hb : ∀ (s : Shared) (H : Hp) (L : Addr) (cl : List (Str × Addr)) (fp : List Addr) (Z : Hp), Hyp (tc.blk scope) (X.blk s H scope (compEnvC scope cl L X.env) fp) (C.wz Z) WF :=
          fun s H L cl fp Z => ⟨hy.ok.blk bo.kind s H L cl fp, hy.K, hy.bs, wf⟩
        refine ⟨ownOf tc.N scope, rfl, it.2 X C W hy, by rw [hy.ok.N, hy.ok.sc]; exact bo, fun s H L cl fp => ⟨fun pins s' σ H' v u Q I rv ⟨Z, q⟩ => (t.2 _ (C.wz Z) WF (hb s H L cl fp Z)).run pins s' σ H' v u Q I rv q⟩,
          fun s H L cl fp => ⟨fun pins s' σ H' Q I ⟨Z, q⟩ => (c.2 _ (C.wz Z) (hb s H L cl fp Z)).run pins s' σ H' Q I q⟩, fun s H L cl fp => ⟨fun pins s' σ H' Q I ⟨Z, q⟩ => (e.2 _ (C.wz Z) WF (hb s H L cl fp Z)).run pins s' σ H' Q I q⟩,
          fun x => hi.down.set _ x, fun q hq => ?_, subV_of h.2.2⟩
        obtain ⟨h0, hbr⟩ := hy.bs q hq
        rcases h.2.1 with z | z
        · rw [z] at hbr; cases hbr
        · rw [h0]; exact noIn_of z⟩⟩
    else none
  | _, _, _, _, _ => none

/-! ### and, or -/
def trBV (tc : TC) (op : BoolOp) (pos : Pos) : (es : List Expr) → Option { m : M Val // GE tc (.BoolOp op es pos) m }
  | [] => none
  | [e] => (r.e tc e).map fun m => ⟨m.1, fun X C W hy => pe_one (m.2 X C W hy)⟩
  | e :: e2 :: es => match r.e tc e, trBV tc op pos (e2 :: es) with
    | some m, some n => match op, n with
      | .And, n => some ⟨mAndV m.1 n.1, fun X C W hy => fe_and hy.wm (m.2 X C W hy) (n.2 X C W hy)⟩
      | .Or, n => some ⟨mOrV m.1 n.1, fun X C W hy => fe_or hy.wm (m.2 X C W hy) (n.2 X C W hy)⟩
    | _, _ => none
def trBT (tc : TC) (op : BoolOp) (pos : Pos) : (es : List Expr) → Option { m : M Bool // ∀ X C W, Hyp tc X C W → PW X (.BoolOp op es pos) (rdT C W m) }
  | [] => none
  | [e] => match op with
    | .And => (r.t tc e).map fun m => ⟨m.1, fun X C W hy => fw_and1 (m.2 X C W hy)⟩
    | .Or => (r.t tc e).map fun m => ⟨m.1, fun X C W hy => fw_or1 (m.2 X C W hy)⟩
  | e :: e2 :: es => match r.t tc e, trBT tc op pos (e2 :: es) with
    | some m, some n => match op, n with
      | .And, n => some ⟨mAnd m.1 n.1, fun X C W hy => fw_and hy.wm (m.2 X C W hy) (n.2 X C W hy)⟩
      | .Or, n => some ⟨mOr m.1 n.1, fun X C W hy => fw_or hy.wm (m.2 X C W hy) (n.2 X C W hy)⟩
    | _, _ => none

/-! ### comparisons -/
/-- how a comparison is done: by values, by the machine -/
structure CmpP (op : CmpOp) (f : D → D → Option Val) : Prop where
  run : ∀ X C, C.K = X.K → X.A.units + 65 < cLine → ∃ r : R2, OpR X (compareOp op) r ∧ OpS C r f
  mark : ∀ b, behindInMarks op b = false
def cmpOf (op : CmpOp) : Option { f : D → D → Option Val // CmpP op f } :=
  match op with
  | .Lt => some ⟨oLt, fun X C _ _ => ⟨_, op_lt, os_cmp⟩, fun b => noMark b _ (by decide) (by decide)⟩
  | .LtE => some ⟨oLe, fun X C _ _ => ⟨_, op_le, os_cmp⟩, fun b => noMark b _ (by decide) (by decide)⟩
  | .Gt => some ⟨oGt, fun X C _ _ => ⟨_, op_gt, os_cmp⟩, fun b => noMark b _ (by decide) (by decide)⟩
  | .GtE => some ⟨oGe, fun X C _ _ => ⟨_, op_ge, os_cmp⟩, fun b => noMark b _ (by decide) (by decide)⟩
  | .Eq => some ⟨oEq, fun X C hK hu => ⟨_, op_eqP (by omega), os_eq hK⟩, fun b => noMark b _ (by decide) (by decide)⟩
  | .NotEq => some ⟨oNe, fun X C hK hu => ⟨_, op_neP (by omega), os_ne hK⟩, fun b => noMark b _ (by decide) (by decide)⟩
  | .Is => some ⟨oIs, fun X C _ _ => ⟨_, op_isN, os_is⟩, fun b => noMark b _ (by decide) (by decide)⟩
  | .IsNot => some ⟨oIsNot, fun X C _ _ => ⟨_, op_notN, os_isnot⟩, fun b => noMark b _ (by decide) (by decide)⟩
  | _ => none
structure BinP (op : Operator) (f : D → D → Option Val) : Prop where
  run : ∀ X C, C.K = X.K → ∃ r : R2, OpR X (binaryOp op) r ∧ OpS C r f
def binOf (op : Operator) : Option { f : D → D → Option Val // BinP op f } :=
  match op with
  | .Add => some ⟨oAdd, ⟨fun X C hK => ⟨_, op_addA, os_add hK⟩⟩⟩
  | .Sub => some ⟨oSub, ⟨fun X C hK => ⟨_, op_sub, os_sub⟩⟩⟩
  | .Mult => some ⟨oMul, ⟨fun X C hK => ⟨_, op_mulA, os_mul hK⟩⟩⟩
  | .Mod => some ⟨oMod, ⟨fun X C hK => ⟨_, op_mod, os_mod⟩⟩⟩
  | .FloorDiv => some ⟨oFdiv, ⟨fun X C hK => ⟨_, op_fdiv, os_fdiv⟩⟩⟩
  | .Pow => some ⟨oPow, ⟨fun X C hK => ⟨_, op_pow, os_pow⟩⟩⟩
  | _ => none

/-! ### built-ins -/
inductive BltK where
  | fn (id : String)
  | ty (T : String)
def BltK.val : BltK → Value
  | .fn id => .builtin id
  | .ty T => .type T
structure BltP (x : Str) (k : BltK) (f : List D → Option Val) : Prop where
  run : ∀ X C, C.K = X.K → X.calm = true → X.A.guards = some [] → X.A.units + 65 < cLine → ∃ r, CallR X k.val r ∧ CaS C r f
  boot : bootBuiltins x = some k.val
  mem : x ∈ bins
  pl : plain x = true
structure BltF (x : Str) where
  k : BltK
  f : List D → Option Val
  p : BltP x k f
theorem boot_any' : bootBuiltins "any" = some (.builtin "any") := by decide +kernel
theorem boot_all' : bootBuiltins "all" = some (.builtin "all") := by decide +kernel
theorem boot_abs' : bootBuiltins "abs" = some (.builtin "abs") := by decide +kernel
theorem boot_len' : bootBuiltins "len" = some (.builtin "len") := by decide +kernel
theorem boot_max' : bootBuiltins "max" = some (.builtin "max") := by decide +kernel
theorem boot_min' : bootBuiltins "min" = some (.builtin "min") := by decide +kernel
theorem boot_repr' : bootBuiltins "repr" = some (.builtin "repr") := by decide +kernel
theorem boot_int' : bootBuiltins "int" = some (.type "int") := by decide +kernel
theorem boot_list' : bootBuiltins "list" = some (.type "list") := by decide +kernel
theorem boot_tuple' : bootBuiltins "tuple" = some (.type "tuple") := by decide +kernel
def bltOf (x : Str) : Option (BltF x) :=
  match x with
  | "len" => some ⟨.fn "len", oLen, ⟨fun X C hK hc hg hu => ⟨_, call_len_seq, ca_len hK⟩, boot_len', by decide, by decide⟩⟩
  | "abs" => some ⟨.fn "abs", oAbs, ⟨fun X C hK hc hg hu => ⟨_, call_abs, ca_abs⟩, boot_abs', by decide, by decide⟩⟩
  | "max" => some ⟨.fn "max", oMax, ⟨fun X C hK hc hg hu => ⟨_, cr_max23 hc, ca_max⟩, boot_max', by decide, by decide⟩⟩
  | "min" => some ⟨.fn "min", oMin, ⟨fun X C hK hc hg hu => ⟨_, cr_min23 hc, ca_min⟩, boot_min', by decide, by decide⟩⟩
  | "any" => some ⟨.fn "any", oAny, ⟨fun X C hK hc hg hu => ⟨_, cr_any hc, ca_any hK⟩, boot_any', by decide, by decide⟩⟩
  | "all" => some ⟨.fn "all", oAll, ⟨fun X C hK hc hg hu => ⟨_, cr_all hc, ca_all hK⟩, boot_all', by decide, by decide⟩⟩
  | "repr" => some ⟨.fn "repr", oRepr, ⟨fun X C hK hc hg hu => ⟨_, cr_reprD hg hu, ca_repr hK⟩, boot_repr', by decide, by decide⟩⟩
  | "int" => some ⟨.ty "int", oInt, ⟨fun X C hK hc hg hu => ⟨_, call_int1, ca_int⟩, boot_int', by decide, by decide⟩⟩
  | "tuple" => some ⟨.ty "tuple", oTuple, ⟨fun X C hK hc hg hu => ⟨_, call_tuple_of, ca_tuple hK⟩, boot_tuple', by decide, by decide⟩⟩
  | "list" => some ⟨.ty "list", oList, ⟨fun X C hK hc hg hu => ⟨_, call_list_of, ca_list hK⟩, boot_list', by decide, by decide⟩⟩
  | _ => none
theorem blt_run {tc : TC} {x : Str} {e : Expr} {es : List Expr} {p pos : Pos} (b : BltF x) {as : List Opd} (ha : GA tc (e :: es) as) (hs : NoStar e) (hpl : ∀ pos env, (backTo pos (starEach es env)).any (·.1) = false) (hg : isGl tc.sc x = true) :
    GE tc (.Call (.Name x p) (e :: es) [] pos) (mFn b.f as) := fun X C W hy => by
  obtain ⟨r, h1, h2⟩ := b.p.run X C hy.K hy.ok.calm hy.ok.gd hy.ok.un
  have pl := plain_of b.p.pl
  have hboot := b.p.boot
  cases hk : b.k with
  | fn id =>
    rw [hk] at h1 hboot
    exact fe_blt hy.wm h1 h2 (isGl_of hg hy.ok) (hy.ok.bi _ b.p.mem) hboot pl.2.2 pl.1 (ha X C W hy) (hs.se _ _) (hpl _ _)
  | ty T =>
    rw [hk] at h1 hboot
    exact fe_ty hy.wm h1 h2 (isGl_of hg hy.ok) (hy.ok.bi _ b.p.mem) hboot pl.2.2 pl.1 (ha X C W hy) (hs.se _ _) (hpl _ _)

/-! ### list(range(..)), tuple(range(..)) -/
theorem rgOk_of {a b : Int} (h1 : small a = true) (h2 : small b = true) : RgOk a b := by
  have := small_iff.mp h1
  have := small_iff.mp h2
  exact ⟨by omega, by omega, by omega, by omega, by omega⟩
theorem rg1_go {X : Cx} {C : Ct} {W : Wish} (wm : WM W) {oa : Opd} {σ : L2.St} {H : Hp} {Q : Int → Int → Hp → Prop} (q : rdI C W (itRng [oa]) σ H fun _ _ => True) (F : Hp) : True := trivial
/-- the two ends of range(a) -/
def rdRg (C : Ct) (W : Wish) (it : M (List D)) (σ : L2.St) (H : Hp) (Q : Int → Int → Hp → Prop) : Prop :=
  ∃ F ρ, Sim C F ρ σ H ∧ Pst W F σ (it ρ) fun ds ρ' => ∀ F' H' a b, Same F F' → Sim C F' ρ' σ H' → RgOk a b → DpAll C.K F' (rgV a b) ds → ds.length ≤ sizeLine → Q a b H'
theorem rg1_rd {C : Ct} {W : Wish} (wm : WM W) {oa : Opd} {σ : L2.St} {H : Hp} {Q : Int → Int → Hp → Prop} (q : rdRg C W (itRng [oa]) σ H Q) : tRg1 (rdO C W oa) σ H Q := by
  obtain ⟨F, ρ, S, q⟩ := q
  unfold itRng at q
  simp only [runs, bnd_assoc, bnd_ret] at q
  refine opd_run wm S q fun F1 H1 x o ρ1 s1 S1 g h1 => ?_
  simp only [gets, bnd_assoc, bnd_ret] at h1
  obtain ⟨d, w, h2⟩ := opd_get S1 g h1
  obtain ⟨l, e1, q⟩ := h2.lift
  unfold rngOf at e1
  split at e1
  · rename_i k hk
    split at e1
    · rename_i hs
      cases e1
      cases hk
      refine ⟨k, view_int w, q F1 H1 0 k s1 S1 (rgOk_of (by decide) hs) ?_ ?_⟩
      · have := rgV_dps (C := C) (F := F1) 0 k
        rw [show k - 0 = k by omega] at this
        exact this
      · have := small_iff.mp hs
        rw [rng_len]; exact sz_line (by omega)
    · cases e1
  · rename_i hk; cases hk
  · rename_i hk; cases hk
  · cases e1
theorem lst_rg {X : Cx} {C : Ct} {W : Wish} (wm : WM W) {it : M (List D)} {e : Expr} {p pos : Pos} {te : L2.St → Hp → (Int → Int → Hp → Prop) → Prop} (hc : X.calm = true) (hg : Gl X "list") (hm : X.mg "list" = none) (he : PRg X e te) (i : ∀ σ H Q, rdRg C W it σ H Q → te σ H Q)
    (na : starEach [e] X.env = (false, eval e X.env) :: starEach [] X.env) : PE X (.Call (.Name "list" p) [e] [] pos) (rd C W (lstRng it)) :=
  PE.imp (pe_listRg hc hg hm he na) fun σ H Q q => i σ H _ (by
    obtain ⟨F, ρ, S, q⟩ := q
    refine ⟨F, ρ, S, (Pst.bnd.mp q).imp fun ds ρ' q F' H' a b s S' ho hd hz => ⟨ho, fun z hz' => ?_⟩⟩
    obtain ⟨S2, r2⟩ := S'.ownRV hz' hd hz
    exact q F' _ _ s S2 r2)
theorem tup_rg {X : Cx} {C : Ct} {W : Wish} (wm : WM W) {it : M (List D)} {e : Expr} {p pos : Pos} {te : L2.St → Hp → (Int → Int → Hp → Prop) → Prop} (hc : X.calm = true) (hg : Gl X "tuple") (hm : X.mg "tuple" = none) (he : PRg X e te) (i : ∀ σ H Q, rdRg C W it σ H Q → te σ H Q)
    (na : starEach [e] X.env = (false, eval e X.env) :: starEach [] X.env) : PE X (.Call (.Name "tuple" p) [e] [] pos) (rd C W (tupRng it)) :=
  PE.imp (pe_tupRg hc hg hm he na) fun σ H Q q => i σ H _ (by
    obtain ⟨F, ρ, S, q⟩ := q
    refine ⟨F, ρ, S, (Pst.bnd.mp q).imp fun ds ρ' q F' H' a b s S' ho hd hz => ⟨ho, fun z hz' => ?_⟩⟩
    obtain ⟨S2, r2⟩ := S'.tup hz' hd hz
    exact q _ _ _ (s.trans (same_new (S'.free hz'))) S2 r2)
/-- a slice's part -/
structure GP (tc : TC) (o : Option Expr) (m : Option (M Val)) : Prop where
  run : ∀ X C W, Hyp tc X C W → ∃ t, PO X o t ∧ ∀ (σ : L2.St) (H : Hp) (Q : Option Int → Hp → Prop), (∃ F ρ, Sim C F ρ σ H ∧ Pst W F σ (part m ρ) fun i ρ' => ∀ F' H', Same F F' → Sim C F' ρ' σ H' → Q i H') → t σ H Q
def trP (tc : TC) (o : Option Expr) : Option { m : Option (M Val) // GP tc o m } :=
  match o with
  | none => some ⟨none, ⟨fun X C W hy => ⟨_, po_none, fun σ H Q ⟨F, ρ, S, q⟩ => q F H (Same.refl F) S⟩⟩⟩
  | some e => (r.e tc e).map fun m => ⟨some m.1, ⟨fun X C W hy => ⟨_, po_some (m.2 X C W hy), fun σ H Q ⟨F, ρ, S, q⟩ => by
      refine ⟨F, ρ, S, (Pst.bnd.mp q).imp fun v ρ1 q F1 H1 x s1 S1 rv => ?_⟩
      cases v with
      | ow ds => exact False.elim q
      | fz d =>
        cases d with
        | int i => cases rv; exact ⟨i, rfl, q F1 H1 s1 S1⟩
        | none => exact False.elim q
        | bool _ => exact False.elim q
        | str _ => exact False.elim q
        | list _ => exact False.elim q
        | tuple _ => exact False.elim q
        | dict _ => exact False.elim q⟩⟩⟩
theorem sl_run {tc : TC} {a : Expr} {lo hi : Option Expr} {p2 pos : Pos} {oa : Opd} {ml mh : Option (M Val)} (ha : GO tc a oa) (hl : GP tc lo ml) (hh : GP tc hi mh) : GE tc (.Subscript a (.Slice lo hi none p2) pos) (mSl oa ml mh) := fun X C W hy => by
  obtain ⟨tl, l1, l2⟩ := hl.run X C W hy
  obtain ⟨th, h1, h2⟩ := hh.run X C W hy
  refine PE.imp (pe_slice sl_All (ha X C W hy) l1 h1) fun σ H Q q => ?_
  obtain ⟨F, ρ, S, q⟩ := q
  refine opd_run hy.wm S q fun F1 H1 x o ρ1 s1 S1 g q => ?_
  refine l2 _ _ _ ⟨F1, ρ1, S1, (Pst.bnd.mp q).imp fun l ρ2 q F2 H2 s2 S2 => ?_⟩
  refine h2 _ _ _ ⟨F2, ρ2, S2, (Pst.bnd.mp (Pst.mono hy.wm s2 q)).imp fun u ρ3 q F3 H3 s3 S3 => ?_⟩
  obtain ⟨d, w, q⟩ := opd_get S3 (g.mono (s2.trans s3)) (Pst.mono hy.wm s3 q)
  obtain ⟨v, e1, q⟩ := q.lift
  exact sl_go hy.K S3 w e1 fun F' H' z s S' r' => q F' H' z (((s1.trans s2).trans s3).trans s) S' r'
end FK

/-! FkF3: the whole reading. -/
namespace FK
open PySem L2 PyProof.Rows
variable (r : Rec)

/-! ### calls of the module's own defs -/
def trCall (tc : TC) (x : Str) (p : Pos) (es : List Expr) (pos : Pos) : Option { m : M Val // GE tc (.Call (.Name x p) es [] pos) m } :=
  match hΦ : tc.Φ x with
  | none => none
  | some fe =>
    if h : isGl tc.sc x = true ∧ plain x = true then
      match es with
      | [] => if hbr : fe.br = false then some ⟨mCall fe [], fun X C W hy => by
          obtain ⟨CX, k, f, fd, ps, F, hr, hm, hk, hb, hCX⟩ := hy.ok.calls x fe hΦ
          exact fe_call0 hy.wm hy.K hbr F hy.ok.gd hr (isGl_of h.1 hy.ok) hm hk hb hCX (plain_of h.2).1⟩ else none
      | e :: es => match noStar e, allPlain es with
        | some hs, some hp =>
          if hbr : fe.br = false then
            match trIs r tc (e :: es) with
            | some as => some ⟨mCall fe as.1, fun X C W hy => by
                obtain ⟨CX, k, f, fd, ps, F, hr, hm, hk, hb, hCX⟩ := hy.ok.calls x fe hΦ
                exact fe_call hy.wm hy.K hbr F hy.ok.gd hr (isGl_of h.1 hy.ok) hm hk hb hCX (as.2 X C W hy) (plain_of h.2).1 (hs.down.se _ _) (hp.down _ _)⟩
            | none => none
          else match trO r tc e, trIs r tc es with
            | some ⟨.nm i, ho⟩, some as => some ⟨mCallR fe i as.1, fun X C W hy => by
                obtain ⟨CX, k, f, fd, ps, F, hr, hm, hk, hb, hCX⟩ := hy.ok.calls x fe hΦ
                exact fe_callR hy.wm hy.K (by simpa using hbr) F hy.ok.gd hr (isGl_of h.1 hy.ok) hm hk hb hCX (ho X C W hy) (as.2 X C W hy) (plain_of h.2).1 (hs.down.se _ _) (hp.down _ _)⟩
            | _, _ => none
        | _, _ => none
    else none
/-- list(range(a)), tuple(range(a)) -/
def trRg (tc : TC) (e : Expr) : Option { m : M Val // GE tc e m } :=
  match e with
  | .Call (.Name "list" p) [.Call (.Name "range" p2) [a] [] pos2] [] pos =>
    match noStar a, trO r tc a with
    | some ha, some oa => if h : isGl tc.sc "list" = true ∧ isGl tc.sc "range" = true then
        some ⟨lstRng (itRng [oa.1]), fun X C W hy => lst_rg hy.wm hy.ok.calm (isGl_of h.1 hy.ok) (hy.ok.bi _ (by decide)) (prg_1 (isGl_of h.2 hy.ok) (hy.ok.bi _ (by decide)) (oa.2 X C W hy) (ha.down.se _ _)) (fun σ H Q q => rg1_rd hy.wm q) rfl⟩ else none
    | _, _ => none
  | .Call (.Name "tuple" p) [.Call (.Name "range" p2) [a] [] pos2] [] pos =>
    match noStar a, trO r tc a with
    | some ha, some oa => if h : isGl tc.sc "tuple" = true ∧ isGl tc.sc "range" = true then
        some ⟨tupRng (itRng [oa.1]), fun X C W hy => tup_rg hy.wm hy.ok.calm (isGl_of h.1 hy.ok) (hy.ok.bi _ (by decide)) (prg_1 (isGl_of h.2 hy.ok) (hy.ok.bi _ (by decide)) (oa.2 X C W hy) (ha.down.se _ _)) (fun σ H Q q => rg1_rd hy.wm q) rfl⟩ else none
    | _, _ => none
  | _ => none
def mNotB (m : M Val) : M Val := bnd (mBl m) fun b => ret (.fz (.bool (!b)))
theorem fe_notB {X : Cx} {C : Ct} {W : Wish} {a : Expr} {pos : Pos} {m : M Val} (wm : WM W) (ha : PE X a (rd C W m)) : PE X (.UnaryOp .Not a pos) (rd C W (mNotB m)) := PE.imp (pe_not ha) fun σ H Q q => by
  refine bl_go q fun F F' H' b ρ' s S' q => ⟨b, rfl, ?_⟩
  exact q F' H' _ s S' (.bl _)

def stepE0 (tc : TC) (e : Expr) : Option { m : M Val // GE tc e m } :=
  match e with
  | .Constant (.int i) k p => some ⟨mC (.int i), fun X C W hy => fe_int⟩
  | .Constant (.bool b) k p => some ⟨mC (.bool b), fun X C W hy => fe_bl⟩
  | .Constant .none k p => some ⟨mC .none, fun X C W hy => fe_non⟩
  | .Constant (.str x) k p => some ⟨mC (.str x), fun X C W hy => fe_str⟩
  | .Name x p => (slot tc x p).map fun i => ⟨mV i.1, fun X C W hy => fe_v (i.2 X hy.ok)⟩
  | .BinOp a op b p => match binOf op, trO r tc a, trO r tc b with
    | some f, some oa, some ob => some ⟨mBin f.1 oa.1 ob.1, fun X C W hy => by
        obtain ⟨q, h1, h2⟩ := f.2.run X C hy.K
        exact fe_bin hy.wm h1 h2 (oa.2 X C W hy) (ob.2 X C W hy)⟩
    | _, _, _ => none
  | .UnaryOp .USub a p => (trO r tc a).map fun oa => ⟨mUn oNeg oa.1, fun X C W hy => fe_un hy.wm un_neg us_neg (oa.2 X C W hy)⟩
  | .UnaryOp .Not a p => (r.e tc a).map fun m => ⟨mNotB m.1, fun X C W hy => fe_notB hy.wm (m.2 X C W hy)⟩
  | .IfExp c a b p => match r.t tc c, r.e tc a, r.e tc b with
    | some mc, some ma, some mb => some ⟨mIf mc.1 ma.1 mb.1, fun X C W hy => fe_if hy.wm (mc.2 X C W hy) (ma.2 X C W hy) (mb.2 X C W hy)⟩
    | _, _, _ => none
  | .Compare a [op] [b] p => match cmpOf op, trO r tc a, trO r tc b with
    | some f, some oa, some ob => some ⟨mBin f.1 oa.1 ob.1, fun X C W hy => by
        obtain ⟨q, h1, h2⟩ := f.2.run X C hy.K hy.ok.un
        exact fe_cmp hy.wm h1 h2 (oa.2 X C W hy) (ob.2 X C W hy) (f.2.mark b)⟩
    | _, _, _ => none
  | .BoolOp op es p => trBV r tc op p es
  | .Tuple es k p => (trIs r tc es).map fun ms => ⟨mTup ms.1, fun X C W hy => fe_tup hy.wm (ms.2 X C W hy)⟩
  | .List es p => (trIs r tc es).map fun ms => ⟨mLst ms.1, fun X C W hy => fe_lst hy.wm (ms.2 X C W hy)⟩
  | .Subscript a (.Slice lo hi none p2) p => match trO r tc a, trP r tc lo, trP r tc hi with
    | some oa, some ml, some mh => some ⟨mSl oa.1 ml.1 mh.1, sl_run oa.2 ml.2 mh.2⟩
    | _, _, _ => none
  | .Subscript a b p => match plainIx b, trO r tc a, trO r tc b with
    | some hp, some oa, some ob => some ⟨mBin oIx oa.1 ob.1, fun X C W hy => fe_ix hy.wm ix_A (os_ix hy.K) (oa.2 X C W hy) (ob.2 X C W hy) hp.down⟩
    | _, _, _ => none
  | .Call (.Name x p) es [] pos => match bltOf x, es with
    | some b, e :: es => match noStar e, allPlain es, trOs r tc (e :: es) with
      | some hs, some hp, some as => if hg : isGl tc.sc x = true then some ⟨mFn b.f as.1, blt_run b as.2 hs.down hp.down hg⟩ else none
      | _, _, _ => none
    | _, es => trCall r tc x p es pos
  | .ListComp elt [⟨tg, iter, ifs, 0⟩] scope pos => (trComp r tc elt tg iter ifs scope).map fun cp => ⟨mComp cp.1.vs cp.1.it cp.1.t cp.1.c cp.1.e, fun X C W hy => by
      obtain ⟨own, hv, hi, ok, hg, ht, he, hs, hb, hsub⟩ := cp.2.run X C W hy
      refine PE.imp (pe_lc hy.ok.calm hy.ok.nd hi ok hg ht he hs) fun σ H Q q => ?_
      rw [hv]
      exact lc_go hy.wm hb hsub q⟩
  | _ => none
def stepE (tc : TC) (e : Expr) : Option { m : M Val // GE tc e m } := match trRg r tc e with
  | some m => some m
  | none => stepE0 r tc e
def stepT (tc : TC) (e : Expr) : Option { m : M Bool // GT tc e m } :=
  match e with
  | .UnaryOp .Not a p => (r.t tc a).map fun m => ⟨mNot m.1, fun X C W hy => ft_not (m.2 X C W hy)⟩
  | .BoolOp op es p => (trBT r tc op p es).map fun m => ⟨m.1, fun X C W hy => (m.2 X C W hy).pt⟩
  | .Compare a [op] [b] p => match cmpOf op, trO r tc a, trO r tc b with
    | some f, some oa, some ob => some ⟨asT (mBin f.1 oa.1 ob.1), fun X C W hy => by
        obtain ⟨q, h1, h2⟩ := f.2.run X C hy.K hy.ok.un
        exact ft_cmp hy.wm h1 h2 (oa.2 X C W hy) (ob.2 X C W hy) (f.2.mark b)⟩
    | _, _, _ => none
  | e => match plTest e, trO r tc e with
    | some h, some o => some ⟨mT o.1, fun X C W hy => ft_tr hy.wm hy.K (o.2 X C W hy) (h.down.tr _)⟩
    | _, _ => none

/-! ### statements -/
def swNm (sc : Scope) (ts : List Expr) : List Str := ts.filterMap fun
        | .Name id pos => if sc.names.lookup id == some .local && pos.line == (ts.head?.map (·.pos.line)).getD 0 then some id else none
        | _ => none
def swpOf (ts vs : List Expr) (sc : Scope) : Option (Option (List Str)) :=
  if !(ts.length == 2 || ts.length == 3) || vs.length != ts.length then some none
  else if (vs.any fun | .Starred .. => true | _ => false) = true then some none
  else if ((swNm sc ts).length != ts.length || (swNm sc ts).eraseDups.length != (swNm sc ts).length) = true then some none
  else if (vs.all (foldedForSure 8)) = true then some none
  else if (vs.all (constantsAlone 8)) = true then none
  else some (some (swNm sc ts))
theorem swp_ok {ts vs : List Expr} {env : Env} {k k2 : Nat} {p p2 : Pos} {o : Option (List Str)} (hk : env.scope.kind = .function) (h : swpOf ts vs env.scope = some o) : swappedStores [.Tuple ts k p] (.Tuple vs k2 p2) env = pure o := by
  have hb : env.blockKind = .function := by unfold Env.blockKind; rw [hk]; rfl
  unfold swpOf at h
  unfold swappedStores
  simp only [hb]
  by_cases c1 : (!(ts.length == 2 || ts.length == 3) || vs.length != ts.length) = true
  · rw [if_pos c1] at h
    cases h
    rw [if_pos (by rw [c1]; rfl)]
  · rw [if_neg c1] at h
    rw [if_neg (by
      intro z
      rw [Bool.or_eq_true] at z
      rcases z with z | z
      · exact c1 z
      · exact absurd z (by decide))]
    by_cases c2 : (vs.any fun | .Starred .. => true | _ => false) = true
    · rw [if_pos c2] at h
      cases h
      exact if_pos c2
    · rw [if_neg c2] at h
      refine (if_neg c2).trans ?_
      by_cases c3 : ((swNm env.scope ts).length != ts.length || (swNm env.scope ts).eraseDups.length != (swNm env.scope ts).length) = true
      · rw [if_pos c3] at h
        cases h
        exact if_pos c3
      · rw [if_neg c3] at h
        refine (if_neg c3).trans ?_
        by_cases c4 : (vs.all (foldedForSure 8)) = true
        · rw [if_pos c4] at h
          cases h
          exact if_pos c4
        · rw [if_neg c4] at h
          refine (if_neg c4).trans ?_
          by_cases c5 : (vs.all (constantsAlone 8)) = true
          · rw [if_pos c5] at h
            cases h
          · rw [if_neg c5] at h
            cases h
            exact if_neg c5
/-- the targets are names -/
structure NamesOk (tc : TC) (ts : List Expr) (is : List Nat) : Prop where
  pg : ∀ X, XOk tc X → PGs X ts (gNames is)
  len : ts.length = is.length
  ae : ∀ env, (assignEach ts env).length = is.length
  no : ∀ env, (assignEach ts env).findIdx? (·.1) = none
  ok : ∀ X C W, Hyp tc X C W → ∀ i ∈ is, ∀ q ∈ C.Bs, q.1 ≠ i
def trNames (tc : TC) : (ts : List Expr) → Option { is : List Nat // NamesOk tc ts is }
  | [] => some ⟨[], fun X ok => pgs_nil, rfl, fun _ => rfl, fun _ => rfl, fun X C W hy i hi => by cases hi⟩
  | .Name x p :: ts => match stor tc x, trNames tc ts with
    | some i, some is => some ⟨i.1 :: is.1, fun X ok => pgs_cons (pg_name ok.nd (i.2.at ok) (i.2.loc ok) (i.2.fn ok)) (is.2.pg X ok) rfl, by rw [List.length_cons, List.length_cons, is.2.len], fun env => by
        show (assignEach ts env).length + 1 = _
        rw [is.2.ae]; rfl, fun env => by
        show ((false, assign (.Name x p) env) :: assignEach ts env).findIdx? (·.1) = none
        rw [List.findIdx?_cons]
        simp [is.2.no env], fun X C W hy j hj => by
        rcases List.mem_cons.mp hj with e | hj
        · rw [e]; exact okS_of i.2.ok hy
        · exact is.2.ok X C W hy j hj⟩
    | _, _ => none
  | _ => none
/-- a, b = x, y -/
def trPar (tc : TC) (ts : List Expr) (k : Nat) (p : Pos) (vs : List Expr) (k2 : Nat) (p2 pos : Pos) : Option { m : MS // GS tc (.Assign [.Tuple ts k p] (.Tuple vs k2 p2) pos) m } :=
  match trNames tc ts, trTs r tc vs with
  | some is, some ms =>
    match hsw : swpOf ts vs tc.sc with
    | some none => if hl : is.1.length ≤ 1000 then some ⟨sPar is.1 ms.1, fun X C W hy => by
        have hs := swp_ok (k := k) (k2 := k2) (p := p) (p2 := p2) hy.ok.kind (by rw [hy.ok.sc]; exact hsw)
        refine PS.imp (ps_asg (pe_tup (ms.2 X C W hy)) (pg_tup hy.ok.calm (is.2.pg X hy.ok) (is.2.ae _) (is.2.no _)) rfl hs rfl) fun D σ H q => ?_
        exact parT_go hy.wm hy.K rfl hl (is.2.ok X C W hy) q⟩ else none
    | some (some names) => match ts, vs, names with
      | [.Name x px, .Name y py], [a, b], [x', y'] => match stor tc x, stor tc y with
        | some i, some j => if h : x' = x ∧ y' = y ∧ decide (tc.sc.names.lookup x = some .local) = true ∧ decide (tc.sc.names.lookup y = some .local) = true ∧ ¬ i.1 = j.1 then
            some ⟨sPar [i.1, j.1] ms.1, fun X C W hy => by
              have hs := swp_ok (k := k) (k2 := k2) (p := p) (p2 := p2) hy.ok.kind (by rw [hy.ok.sc]; exact hsw)
              rw [h.1, h.2.1] at hs
              refine PS.imp (ps_par hy.ok.calm hy.ok.nd (i.2.at hy.ok) (j.2.at hy.ok) h.2.2.2.2 (by rw [hy.ok.sc]; exact of_decide_eq_true h.2.2.1) (by rw [hy.ok.sc]; exact of_decide_eq_true h.2.2.2.1) (ms.2 X C W hy) hs rfl) fun D σ H q => ?_
              refine par2_go hy.wm (fun l hl => ?_) q
              rcases List.mem_cons.mp hl with e | hl
              · rw [e]; exact okS_of i.2.ok hy
              · rw [List.mem_singleton.mp hl]; exact okS_of j.2.ok hy⟩ else none
        | _, _ => none
      | [.Name x px, .Name y py, .Name z pz], [a, b, c], [x', y', z'] => match stor tc x, stor tc y, stor tc z with
        | some i, some j, some l => if h : (x' = x ∧ y' = y ∧ z' = z) ∧ (decide (tc.sc.names.lookup x = some .local) = true ∧ decide (tc.sc.names.lookup y = some .local) = true ∧ decide (tc.sc.names.lookup z = some .local) = true) ∧ ¬ i.1 = j.1 ∧ ¬ i.1 = l.1 ∧ ¬ j.1 = l.1 then
            some ⟨sPar [i.1, j.1, l.1] ms.1, fun X C W hy => by
              have hs := swp_ok (k := k) (k2 := k2) (p := p) (p2 := p2) hy.ok.kind (by rw [hy.ok.sc]; exact hsw)
              rw [h.1.1, h.1.2.1, h.1.2.2] at hs
              refine PS.imp (ps_par3 hy.ok.calm hy.ok.nd (i.2.at hy.ok) (j.2.at hy.ok) (l.2.at hy.ok) h.2.2.1 h.2.2.2.1 h.2.2.2.2 (by rw [hy.ok.sc]; exact of_decide_eq_true h.2.1.1) (by rw [hy.ok.sc]; exact of_decide_eq_true h.2.1.2.1) (by rw [hy.ok.sc]; exact of_decide_eq_true h.2.1.2.2) (ms.2 X C W hy) hs rfl) fun D σ H q => ?_
              refine par3_go hy.wm (fun l' hl => ?_) q
              rcases List.mem_cons.mp hl with e | hl
              · rw [e]; exact okS_of i.2.ok hy
              · rcases List.mem_cons.mp hl with e | hl
                · rw [e]; exact okS_of j.2.ok hy
                · rw [List.mem_singleton.mp hl]; exact okS_of l.2.ok hy⟩ else none
        | _, _, _ => none
      | _, _, _ => none
    | none => none
  | _, _ => none
/-- x = [.. for ..] -/
def trSetLc (tc : TC) (x : Str) (p : Pos) (elt tg iter : Expr) (ifs : List Expr) (scope : Scope) (cpos pos : Pos) : Option { m : MS // GS tc (.Assign [.Name x p] (.ListComp elt [⟨tg, iter, ifs, 0⟩] scope cpos) pos) m } :=
  match stor tc x, trComp r tc elt tg iter ifs scope with
  | some i, some cp =>
    if h : decide (tc.sc.names.lookup x = some .local) = true ∧ (p.line == cpos.line) = true ∧ (scope.names.any fun (n, k) => n == x && (k == .local || k == .cell)) = false then
      some ⟨sSet i.1 (mComp cp.1.vs cp.1.it cp.1.t cp.1.c cp.1.e), fun X C W hy => by
        obtain ⟨own, hv, hi, ok, hg, ht, he, hs, hb, hsub⟩ := cp.2.run X C W hy
        have hl : X.env.scope.names.lookup x = some .local := by rw [hy.ok.sc]; exact of_decide_eq_true h.1
        refine PS.imp (ps_setLc hy.ok.calm hy.ok.nd (i.2.at hy.ok) hl (sw_true hy.ok.kind hl h.2.1 h.2.2) hi ok hg ht he hs) fun D σ H q => ?_
        rw [hv]
        have q2 := set_go (okS_of i.2.ok hy) q
        exact lc_go hy.wm hb hsub q2⟩
    else if h2 : ((tc.sc.names.lookup x == some .local) && (p.line == cpos.line) && !(scope.names.any fun (n, k) => n == x && (k == .local || k == .cell))) = false then
      some ⟨sSet i.1 (mComp cp.1.vs cp.1.it cp.1.t cp.1.c cp.1.e), fun X C W hy => by
        obtain ⟨own, hv, hi, ok, hg, ht, he, hs, hb, hsub⟩ := cp.2.run X C W hy
        have he' : PE X (.ListComp elt [⟨tg, iter, ifs, 0⟩] scope cpos) (rd C W (mComp cp.1.vs cp.1.it cp.1.t cp.1.c cp.1.e)) := PE.imp (pe_lc hy.ok.calm hy.ok.nd hi ok hg ht he hs) fun σ H Q q => by
          rw [hv]
          exact lc_go hy.wm hb hsub q
        refine fs_set hy.ok.nd (i.2.at hy.ok) (i.2.loc hy.ok) (i.2.fn hy.ok) (okS_of i.2.ok hy) he' ?_
        have hbk : X.env.blockKind = .function := by unfold Env.blockKind; rw [hy.ok.kind]; rfl
        have hko : (X.env.kindOf x == some NameKind.local) = (tc.sc.names.lookup x == some .local) := by
          show (X.env.scope.names.lookup x == some NameKind.local) = _
          rw [hy.ok.sc]
        show swapsWith (.ListComp elt [⟨tg, iter, ifs, 0⟩] scope cpos) (some (.Name x p)) pos.line X.env = pure false
        unfold swapsWith
        simp only [hbk, hko, Expr.pos]
        have e0 : (ScopeKind.function == ScopeKind.function) = true := rfl
        rw [e0, Bool.true_and, h2]⟩
    else none
  | _, _ => none
/-- lists changed by their methods -/
def trMeth (tc : TC) (st : Stmt) : Option { m : MS // GS tc st m } :=
  match st with
  | .Expr (.Call (.Attribute (.Name x p1) "append" apos) [e] [] cpos) pos =>
    match slot tc x p1, noStar e, r.e tc e with
    | some i, some hs, some m => if h : (apos.endLine == cpos.line) = true then some ⟨sApp i.1 m.1, fun X C W hy => by
        have se := hs.down.se [] X.env
        refine PS.imp (ps_expr (pe_bm PySem.F.plainAttrs_list PySem.F.slot_list_append PySem.F.type_list_append mt_append (i.2 X hy.ok) (pa_cons (m.2 X C W hy) pa_nil se) rfl (by rw [se]; rfl) h se rfl) rfl) fun D σ H q => ?_
        exact app_go hy.wm hy.K q⟩ else none
    | _, _, _ => none
  | .Expr (.Call (.Attribute (.Name x p1) "insert" apos) [k, e] [] cpos) pos =>
    match slot tc x p1, noStar k, noStar e, r.e tc k, r.e tc e with
    | some i, some hk, some hs, some mk, some m => if h : (apos.endLine == cpos.line) = true then some ⟨sIns i.1 mk.1 m.1, fun X C W hy => by
        have se := hs.down.se [] X.env
        have sk := hk.down.se [e] X.env
        refine PS.imp (ps_expr (pe_bm PySem.F.plainAttrs_list PySem.F.slot_list_insert PySem.F.type_list_insert mt_insert (i.2 X hy.ok) (pa_cons (mk.2 X C W hy) (pa_cons (m.2 X C W hy) pa_nil se) sk) rfl (by rw [sk, se]; rfl) h sk (by rw [se]; rfl)) rfl) fun D σ H q => ?_
        exact ins_go hy.wm hy.K q⟩ else none
    | _, _, _, _, _ => none
  | _ => none
structure IpP (op : Operator) (f : Int → Int → Int) : Prop where
  run : ∀ X, PIp X op (ipI f)
def ipOf (op : Operator) : Option { f : Int → Int → Int // IpP op f } :=
  match op with
  | .Add => some ⟨fun i j => i + j, ⟨fun X => ip_add⟩⟩
  | .Sub => some ⟨fun i j => i - j, ⟨fun X => ip_sub⟩⟩
  | _ => none
def augP (i : Expr) : Option (PLift (∀ ov iv new, augStore i ov iv new = (do holding [new, ov, iv] (setItem ov iv new); release [new, ov, iv] []; pure .next))) := match i with
  | .Slice .. => none
  | .ListComp .. | .SetComp .. | .DictComp .. | .Set .. | .BoolOp .. | .NamedExpr .. | .BinOp .. | .UnaryOp .. | .Lambda .. | .IfExp .. | .Dict .. | .GeneratorExp .. | .Await .. | .Yield .. | .YieldFrom .. | .Compare .. | .Call .. | .FormattedValue .. | .JoinedStr .. | .Constant .. | .Attribute .. | .Subscript .. | .Starred .. | .Name .. | .List .. | .Tuple .. =>
    some ⟨fun _ _ _ => rfl⟩
def asgP (o i : Expr) (pos : Pos) : Option (PLift (∀ env v, assign (.Subscript o i pos) env v = (do
      let ov ← holding [v] (eval o env)
      let iv ← holding [v, ov] (eval i env)
      standAt pos
      holding [v, ov, iv] (setItem ov iv v)
      release [v, ov, iv] []))) := match i with
  | .Slice .. => none
  | .ListComp .. | .SetComp .. | .DictComp .. | .Set .. | .BoolOp .. | .NamedExpr .. | .BinOp .. | .UnaryOp .. | .Lambda .. | .IfExp .. | .Dict .. | .GeneratorExp .. | .Await .. | .Yield .. | .YieldFrom .. | .Compare .. | .Call .. | .FormattedValue .. | .JoinedStr .. | .Constant .. | .Attribute .. | .Subscript .. | .Starred .. | .Name .. | .List .. | .Tuple .. =>
    some ⟨fun _ _ => rfl⟩
def mostTurns : Nat := 1000000
def stepS (tc : TC) (st : Stmt) : Option { m : MS // GS tc st m } :=
  match st with
  | .Pass p => some ⟨sNx, fun X C W hy => fs_pass⟩
  | .Break p => some ⟨ret .bk, fun X C W hy => fs_break⟩
  | .Continue p => some ⟨ret .ct, fun X C W hy => fs_continue⟩
  | .Return none p => some ⟨sRet (mC .none), fun X C W hy => fs_retN⟩
  | .Return (some (.Name x p1)) p => match slot tc x p1 with
    | some i => if h : okS tc i.1 = true then some ⟨sRet (mMove i.1), fun X C W hy => fs_move (i.2 X hy.ok) (okS_of h hy)⟩ else some ⟨sRet (mV i.1), fun X C W hy => fs_ret (fe_v (i.2 X hy.ok))⟩
    | none => none
  | .Return (some e) p => (r.e tc e).map fun m => ⟨sRet m.1, fun X C W hy => fs_ret (m.2 X C W hy)⟩
  | .Expr (.Constant (.str x) j p1) p => some ⟨sNx, fun X C W hy => fs_doc⟩
  | .Expr e p => match noComp e, r.e tc e with
    | some h, some m => some ⟨sDrop m.1, fun X C W hy => fs_drop (m.2 X C W hy) (h.down.none _ _)⟩
    | _, _ => none
  | .If c a b p => match r.t tc c, r.ss tc a, r.ss tc b with
    | some mc, some ma, some mb => some ⟨sIf mc.1 ma.1 mb.1, fun X C W hy => fs_if hy.wm (mc.2 X C W hy) (ma.2 X C W hy) (mb.2 X C W hy)⟩
    | _, _, _ => none
  | .While c b [] p => match r.t tc c, r.ss tc b with
    | some mc, some mb => some ⟨whileL mc.1 mb.1 mostTurns, fun X C W hy => PS.imp (ps_while hy.ok.pas (mc.2 X C W hy) (mb.2 X C W hy)) fun D σ H q => while_go hy.wm q⟩
    | _, _ => none
  | .For tg it b [] p => match noComp it, trIt r tc tg it, trG tc tg, r.ss tc b with
    | some h, some mi, some t, some mb => some ⟨sFor mi.1 t.1 mb.1, fun X C W hy => PS.imp (ps_for hy.ok.pas hy.ok.calm (mi.2 X C W hy) (t.2 X C W hy) (mb.2 X C W hy) (h.down.set _)) fun D σ H q => for_go hy.wm q⟩
    | _, _, _, _ => none
  | .Assign [.Name x p1] (.ListComp elt [⟨tg, iter, ifs, 0⟩] scope cpos) p => trSetLc r tc x p1 elt tg iter ifs scope cpos p
  | .Assign [.Name x p1] e p => match stor tc x, noComp e, r.e tc e with
    | some i, some h, some m => some ⟨sSet i.1 m.1, fun X C W hy => fs_set hy.ok.nd (i.2.at hy.ok) (i.2.loc hy.ok) (i.2.fn hy.ok) (okS_of i.2.ok hy) (m.2 X C W hy) (h.down.sole _ _ _)⟩
    | _, _, _ => none
  | .Assign [.Tuple ts k p1] (.Tuple vs k2 p2) p => trPar r tc ts k p1 vs k2 p2 p
  | .Assign [.Tuple ts k p1] e p => match noTup e, trG tc (.Tuple ts k p1), r.e tc e with
    | some h2, some t, some m => some ⟨sPut t.1 m.1, fun X C W hy => fs_put hy.wm (t.2 X C W hy) (m.2 X C W hy) (tup_sole _ _ _ _ _ _) (h2.down.sw _ _ _ _) rfl⟩
    | _, _, _ => none
  | .Assign [.Subscript (.Name x p1) i p2] e p => match slot tc x p1, r.e tc i, r.e tc e, asgP (.Name x p1) i p2 with
    | some s, some mi, some m, some ha => some ⟨sItem s.1 mi.1 m.1, fun X C W hy => PS.imp (ps_asg (m.2 X C W hy) (pg_sub (s.2 X hy.ok) (mi.2 X C W hy) set_list (ha.down _)) (sub_sole _ _ _ _ _ _) rfl rfl) fun D σ H q => item_go hy.wm q⟩
    | _, _, _, _ => none
  | .AugAssign (.Name x p1) op e p => match stor tc x, ipOf op, r.e tc e with
    | some i, some f, some m => some ⟨sAug i.1 f.1 m.1, fun X C W hy => PS.imp (ps_aug hy.ok.nd (i.2.at hy.ok) (i.2.loc hy.ok) (m.2 X C W hy) (f.2.run X) (i.2.fn hy.ok)) fun D σ H q => aug_go hy.wm (okS_of i.2.ok hy) q⟩
    | _, _, _ => none
  | .AugAssign (.Subscript (.Name x p1) i p2) op e p => match slot tc x p1, ipOf op, r.e tc i, r.e tc e, augP i with
    | some s, some f, some mi, some m, some ha => some ⟨sAugI s.1 f.1 mi.1 m.1, fun X C W hy => PS.imp (ps_augS (s.2 X hy.ok) (mi.2 X C W hy) get_listL (m.2 X C W hy) (f.2.run X) set_list ha.down) fun D σ H q => augI_go hy.wm hy.K q⟩
    | _, _, _, _, _ => none
  | _ => none
def trS (tc : TC) (st : Stmt) : Option { m : MS // GS tc st m } := match trMeth r tc st with
  | some m => some m
  | none => stepS r tc st
def stepSs (tc : TC) : (ss : List Stmt) → Option { m : MS // GSs tc ss m }
  | [] => some ⟨sNx, fun X C W hy => fss_nil⟩
  | [s] => (trS r tc s).map fun m => ⟨m.1, fun X C W hy => fss_one (m.2 X C W hy)⟩
  | s :: s2 :: ss => match trS r tc s, stepSs tc (s2 :: ss) with
    | some m, some n => some ⟨sSeq m.1 n.1, fun X C W hy => fss_cons hy.wm (m.2 X C W hy) (n.2 X C W hy)⟩
    | _, _ => none
def reading : Nat → Rec
  | 0 => ⟨fun _ _ => none, fun _ _ => none, fun _ _ => none⟩
  | n + 1 => ⟨stepE (reading n), stepT (reading n), stepSs (reading n)⟩
end FK

/-! FkG: a program's defs, one upon the other; the law's end. -/
namespace FK
open PySem L2 PyProof.Rows

structure DefT where
  st : Stmt
  x : Str
  N : List Str
  ps : List Str
  br : Bool
def DefT.tc (d : DefT) (Φ : Str → Option FnE) : TC := ⟨d.N, defScope d.st, fun _ => true, d.br, Φ⟩
def DefT.d (d : DefT) : He.DefD := ⟨(d.x, none), d.x, d.x, defArgs d.st, defBody d.st, defScope d.st, [], []⟩
structure DefT.Ok (d : DefT) : Prop where
  sc : FnScope d.N d.ps (defScope d.st)
  bind : ∀ (kV doc pm : Value) (an : Option Addr) (cdv ct : Value) (us : List Value), us.length = d.ps.length →
    bindArgs (PySem.W.fnOf d.x d.x (defArgs d.st) (defBody d.st) (defScope d.st) .none kV doc pm an cdv ct) ⟨us, []⟩ = pure (d.ps.zip us)
def feOf (d : DefT) (m : MS) : FnE := { f := fnOf d.N.length m, np := d.ps.length, br := d.br }
def look : List (Str × FnE) → Str → Option FnE
  | [], _ => none
  | (y, fe) :: L, x => if y == x then some fe else look L x
theorem look_mem : ∀ {L : List (Str × FnE)} {x : Str} {fe : FnE}, look L x = some fe → (x, fe) ∈ L
  | [], _, _, h => by cases h
  | (y, fe') :: L, x, fe, h => by
    unfold look at h
    split at h
    · rename_i e
      cases h
      have e' : y = x := eq_of_beq e
      rw [e']
      exact List.mem_cons_self ..
    · exact List.mem_cons_of_mem _ (look_mem h)
section
variable {P : Program} {w : World} {K : PySem.W.Frag} {mg : Str → Option Value} {base : Heap}
structure Known (P : Program) (w : World) (K : PySem.W.Frag) (mg : Str → Option Value) (base : Heap) (k : Nat) (x : Str) (fe : FnE) : Prop where
  out : ∃ (f : Addr) (fd : FuncData) (ps : List Str), FnG P w K mg base CX0 k f fd ps (spOf K fe) ∧ mg x = some (.ref f) ∧ PySem.W.keepIn K (.ref f) = true ∧ Binds K fd ps []
theorem Known.up {j k : Nat} {x : Str} {fe : FnE} (h : Known P w K mg base j x fe) (e : j ≤ k) : Known P w K mg base k x fe := by
  obtain ⟨f, fd, ps, h1, h2⟩ := h.out
  exact ⟨f, fd, ps, h1.up e, h2⟩
theorem fun_of {d : DefT} {f : Addr} {fd : FuncData} (F : FunD K d.x d.x (defArgs d.st) (defBody d.st) (defScope d.st) [] [] f fd) : Fun K d.x d.x d.st f fd := by
  obtain ⟨oc, od, dV, kV, doc, pm, an, cdv, ct, osl, rfl, lk, hcd, hD, _⟩ := F.ex
  rcases hD with ⟨_, rfl⟩ | ⟨e, _⟩
  · exact ⟨⟨oc, od, kV, doc, pm, an, cdv, ct, osl, rfl, lk, hcd⟩, F.kp⟩
  · exact absurd rfl e
theorem fnG_def {d : DefT} {L : List (Str × FnE)} {m : MS} {n k : Nat} {f : Addr} {fd : FuncData} (hd : d.Ok) (hm : ((reading n).ss (d.tc (look L)) (defBody d.st)).map (·.1) = some m) (hL : ∀ q ∈ L, Known P w K mg base k q.1 q.2)
    (F : FunD K d.x d.x (defArgs d.st) (defBody d.st) (defScope d.st) [] [] f fd) (bi : ∀ b ∈ bins, mg b = none) : FnG P w K mg base CX0 (k + 1) f fd d.ps (spOf K (feOf d m)) := by
  obtain ⟨⟨m', hm'⟩, e1, e2⟩ := Option.map_eq_some_iff.mp hm
  have e3 : m' = m := e2
  subst e3
  refine fnG_of (m := m') (fun_of F) hd.sc rfl rfl fun cdv A outer s H C hg hh hr hK hB => ?_
  refine hm' _ C WF ⟨⟨rfl, rfl, fun _ _ => rfl, hd.sc.nd, rfl, bi, hg, ?_, PassesOwn.never, hd.sc.kind, fun g fe hgf => ?_⟩, hK, hB, wf⟩
  · have := hr.un
    show (A.deeper _).units + 65 < cLine
    omega
  · obtain ⟨f', fd', ps', h1, h2, h3, h4⟩ := (hL _ (look_mem hgf)).out
    exact ⟨CX0, k, f', fd', ps', h1, hr, h2, h3, h4, fun _ _ _ _ _ z => z⟩
/-- the defs in their order, each read over those ahead of it -/
def Reads (n : Nat) : List (Str × FnE) → List (DefT × MS) → Prop
  | _, [] => True
  | L, (d, m) :: ds => ((reading n).ss (d.tc (look L)) (defBody d.st)).map (·.1) = some m ∧ d.Ok ∧ Reads n ((d.x, feOf d m) :: L) ds
def DefsIn (K : PySem.W.Frag) (mg : Str → Option Value) (ds : List (DefT × MS)) : Prop :=
  ∀ q ∈ ds, ∃ f fd, FunD K q.1.x q.1.x (defArgs q.1.st) (defBody q.1.st) (defScope q.1.st) [] [] f fd ∧ mg q.1.x = some (.ref f)
theorem known_all {n : Nat} (bi : ∀ b ∈ bins, mg b = none) : ∀ {ds : List (DefT × MS)} {L : List (Str × FnE)} {k : Nat}, Reads n L ds → (∀ q ∈ L, Known P w K mg base k q.1 q.2) → DefsIn K mg ds → ∀ q ∈ ds.map (fun q => (q.1.x, feOf q.1 q.2)) ++ L, Known P w K mg base (k + ds.length) q.1 q.2
  | [], L, k, _, hL, _, q, hq => hL q (by simpa using hq)
  | (d, m) :: ds, L, k, h, hL, hD, q, hq => by
    obtain ⟨h1, h2, h3⟩ := h
    obtain ⟨f, fd, F, hmg⟩ := hD (d, m) (List.mem_cons_self ..)
    have G := fnG_def h2 h1 hL F bi
    have Kn : Known P w K mg base (k + 1) d.x (feOf d m) := ⟨f, fd, d.ps, G, hmg, F.kp, F.bindsN h2.bind⟩
    have r := known_all bi (k := k + 1) h3 (fun q hq => by
      rcases List.mem_cons.mp hq with e | hq
      · rw [e]; exact Kn
      · exact (hL q hq).up (Nat.le_succ k)) (fun q hq => hD q (List.mem_cons_of_mem _ hq)) q (by
        simp only [List.map_cons, List.cons_append, List.mem_cons, List.mem_append] at hq ⊢
        rcases hq with e | hq | hq
        · exact .inr (.inl e)
        · exact .inl hq
        · exact .inr (.inr hq))
    have e : k + ((d, m) :: ds).length = k + 1 + ds.length := by
      rw [List.length_cons]; omega
    rw [e]
    exact r
end

/-! ### the law's end -/
theorem dps_int {K : PySem.W.Frag} {F : Hp} : ∀ ns : List Int, DpAll K F (ns.map V.int) (ns.map PyData.int)
  | [] => .nil
  | n :: ns => .cons (.int n) (dps_int ns)
/-- the law's def asked at the script -/
theorem law_at {P : Program} {w : World} {K : PySem.W.Frag} {mg mb : Str → Option Value} {k : Nat} {fa a : Addr} {fd : FuncData} {x : Str} {fe : FnE} {s₁ : Shared} {vs : List Value} {ns : List Int}
    (inK : K.In s₁.heap) (nsG : s₁.heap.Ns mainGlobals mg) (nsB : s₁.heap.Ns builtinsNs mb) (boot : ∀ y : Str, y ≠ "__name__" → mb y = bootBuiltins y) (free : s₁.heap.NoLimit) (noGen : s₁.gens = #[])
    (script : s₁.heap.get? a = some { cls := .type "list", data := .seq vs.toArray }) (are : IntsAre vs ns) (few : ns.length ≤ sizeLine) (room : Room k callerA)
    (F : ∀ base : Heap, K.In base → base.Ns mainGlobals mg → FnG P w K mg base CX0 k fa fd [x] (spOf K fe)) (bound : ∀ (s : Shared) (u : Value), BindsTo s fd ⟨[u], []⟩ [(x, u)])
    (one : fe.np = 1) (nobr : fe.br = false) (yes : ∃ o, fe.f [.fz (.list (ns.map .int))] = .ok (.fz (.bool true)) o) :
    codeAny (model P w) callerA (.call (.ref fa) ⟨[.ref a], []⟩) (fun r s' => r = .ok (.ret (.bool true)) ∧ OldK s₁.heap s'.heap ∧ s'.os = s₁.os ∧ AllBare s'.gens) s₁ := by
  have rvals := vals_ints are
  have long := are.length
  let so : Obj := { cls := .type "list", data := .seq vs.toArray }
  let H : Hp := fun b => match K.lookup a with
    | some _ => none
    | none => if b = a then some (.frz so (.lst (ns.map V.int))) else none
  have tells : ∀ b u, H b = some u → K.lookup a = none ∧ b = a ∧ u = .frz so (.lst (ns.map V.int)) := by
    intro b u h
    show K.lookup a = none ∧ _
    have h' : (match K.lookup a with
      | some _ => none
      | none => if b = a then some (.frz so (.lst (ns.map V.int))) else none : Option HO) = some u := h
    cases q : K.lookup a with
    | some o =>
      rw [q] at h'
      exact absurd h' (by simp)
    | none =>
      rw [q] at h'
      by_cases e : b = a
      · simp only [e, if_true] at h'
        exact ⟨rfl, e, (Option.some.inj h').symm⟩
      · simp only [e, if_false] at h'
        exact absurd h' (by simp)
  have seq : SqL K H a (ns.map V.int) := by
    cases q : K.lookup a with
    | some o =>
      have e := inK a o q
      rw [script] at e
      cases e
      exact .inr ⟨_, vs.toArray, _, q, rfl, rfl, rfl, by rw [List.size_toArray, long]; exact few, by simpa using rvals⟩
    | none =>
      refine .inl (.inr ⟨so, ?_⟩)
      show (match K.lookup a with
        | some _ => none
        | none => if a = a then some (.frz so (.lst (ns.map V.int))) else none : Option HO) = _
      rw [q]
      simp
  have ok : HOk P w H s₁.heap := by
    intro b u h
    obtain ⟨_, rfl, rfl⟩ := tells b u h
    exact ⟨script, by rw [List.length_map]; exact few, vs, _, rvals, script⟩
  have kept : ∀ {b : Addr} {o : Obj}, s₁.heap.get? b = some o → H b = none → (hidT s₁.heap H).get? b = some o := fun e n => hidT_get e n
  have dicts : ∀ {b : Addr} {m : Str → Option Value}, s₁.heap.Ns b m → (hidT s₁.heap H).Ns b m := by
    rintro b m ⟨o, es, ep, e, d, r⟩
    refine ⟨o, es, ep, kept e ?_, d, r⟩
    cases q : H b with
    | none => rfl
    | some u =>
      obtain ⟨_, rfl, _⟩ := tells b u q
      rw [script] at e
      cases e
      have d' : Data.seq vs.toArray _ = Data.dict es ep := d
      cases d'
  have inK' : K.In (hidT s₁.heap H) := by
    intro b o e
    refine kept (inK b o e) ?_
    cases q : H b with
    | none => rfl
    | some u =>
      obtain ⟨z, rfl, _⟩ := tells b u q
      rw [z] at e
      cases e
  have e0 : Env0 P w K mg (hidT s₁.heap H) callerA [] s₁ H :=
    { frames := rfl
      mod := { kin := inK', glob := dicts nsG, blt := ⟨mb, dicts nsB, boot⟩, nolimit := by obtain ⟨mc, h1, h2⟩ := free; exact ⟨mc, dicts h1, h2⟩ }
      bs := fun b o e => of_hidT e
      bsz := Nat.le_of_eq (hidT_size _ _)
      funs := trivial
      frf := fun b hb => absurd (show b ∈ ([] : List Addr) from hb) (by simp)
      hok := ok
      bare := .of_eq noGen }
  obtain ⟨o, yes⟩ := yes
  have sp : spOf K fe [.ref a] H (fun v _ => v = .bl true) fun _ _ _ => False := by
    refine ⟨by rw [one]; rfl, H, none, [.list (ns.map .int)], none, by rw [nobr]; rfl, fun _ _ e => e, hsz_of ok, .cons (.lst seq (dps_int ns)) .nil, ?_⟩
    have e : fe.f (argsV none [.list (ns.map .int)]) = .ok (.fz (.bool true)) o := yes
    rw [e]
    intro F' H' x _ _ _ _ _ _ h
    have h' : Dp K F' x (.bool true) := h
    cases h'
    rfl
  refine codeAny_mono ((F _ inK' (dicts nsG)).run callerA [] s₁ H ⟨[.ref a], []⟩ [.ref a] [.ref a] _ _ rfl room e0 (bound s₁ (.ref a)) (.cons rfl .nil) sp) fun r s' h => ?_
  match r, h with
  | .ok (.ret u), h =>
    obtain ⟨v, H', os, bare, un, ok', rel, q⟩ := h
    have q' : v = .bl true := q
    subst q'
    have hu : u = Value.bool true := rel
    subst hu
    refine ⟨rfl, OldK.of_keep fun b o e => ?_, os, bare⟩
    cases q : H b with
    | none => exact un.keep b o e q (fun z => absurd (show b ∈ ([] : List Addr) from z) (by simp)) (by simp)
    | some u =>
      obtain ⟨_, rfl, rfl⟩ := tells b u q
      obtain ⟨z, _⟩ := ok' b _ (un.frzs b _ _ q)
      rw [script] at e
      cases e
      exact z
  | .ok .next, h => exact False.elim h
  | .ok .brk, h => exact False.elim h
  | .ok .cont, h => exact False.elim h
  | .error e, h => exact False.elim h

/-- what the head has to tell of the defs -/
def faOf (ds : List (DefT × MS)) : List He.Fa := ds.map (fun q => .glo q.1.x) ++ bins.map .free
def fnL (ds : List (DefT × MS)) : List He.DefD := ds.map fun q => q.1.d
theorem reads_last {n : Nat} {dl : DefT} {ml : MS} : ∀ {ds : List (DefT × MS)} {L : List (Str × FnE)}, Reads n L (ds ++ [(dl, ml)]) →
    Reads n L ds ∧ ((reading n).ss (dl.tc (look ((ds.map fun q => (q.1.x, feOf q.1 q.2)).reverse ++ L))) (defBody dl.st)).map (·.1) = some ml ∧ dl.Ok
  | [], L, h => ⟨trivial, h.1, h.2.1⟩
  | (d, m) :: ds, L, h => by
    obtain ⟨h1, h2, h3⟩ := h
    obtain ⟨r1, r2, r3⟩ := reads_last h3
    refine ⟨⟨h1, h2, r1⟩, ?_, r3⟩
    rw [List.map_cons, List.reverse_cons, List.append_assoc]
    exact r2
theorem tells_def {ds : List (DefT × MS)} {K : PySem.W.Frag} {h : Heap} {mg : Str → Option Value} (X : K.In h) (G : h.Ns mainGlobals mg) (c : He.SaysD (faOf ds) (fnL ds) K) : DefsIn K mg ds := by
  intro q hq
  obtain ⟨fd, F⟩ := c.defs (d := q.1.d) (List.mem_map_of_mem (f := fun q : DefT × MS => q.1.d) hq)
  exact ⟨_, fd, F, He.glo_ok X G (c.facts (f := .glo q.1.x) (List.mem_append_left _ (List.mem_map_of_mem (f := fun q : DefT × MS => He.Fa.glo q.1.x) hq)))⟩
theorem tells_free {ds : List (DefT × MS)} {K : PySem.W.Frag} {h : Heap} {mg : Str → Option Value} (X : K.In h) (G : h.Ns mainGlobals mg) (c : He.SaysD (faOf ds) (fnL ds) K) : ∀ b ∈ bins, mg b = none := fun b hb =>
  He.free_ok X G (c.facts (f := .free b) (List.mem_append_right _ (List.mem_map_of_mem hb)))
theorem law_walk {l : PySem.W.OpenLaw} {n N : Nat} {q : Program} {loose : List Str} {XP : (Str → Option Value) → Heap → Prop} {d : DefRec} {x : Str} {ds : List (DefT × MS)} {dl : DefT} {ml : MS}
    (hn : l.most = some n) (hn2 : n ≤ sizeLine) (hdf : d.params.defaults = []) (hr : Room (0 + ds.length + 1) callerA)
    (hR : Reads N [] (ds ++ [(dl, ml)])) (hx : dl.x = d.name) (hps : dl.ps = [x]) (hbr : dl.br = false)
    (yes : ∀ ns : List Int, ns.length ≤ n → ∃ o, fnOf dl.N.length ml [.fz (.list (ns.map .int))] = .ok (.fz (.bool true)) o) :
    PySem.W.WalkO q loose XP (fun _ h => ∃ K : PySem.W.Frag, K.In h ∧ He.SaysD (faOf (ds ++ [(dl, ml)])) (fnL (ds ++ [(dl, ml)])) K) l.row.toRowW d [] (fun f vs => PySem.call f vs) := by
  refine Att.attach_call hn hdf fun w s₀ s₁ mg mb fa o pm cd doc a vs ns G Y ho hd hcd hmg hobj hints hlen hg => ?_
  obtain ⟨K, KX, c⟩ := Y
  have D := tells_def KX G.T.g c
  have B := tells_free KX G.T.g c
  obtain ⟨r1, r2, r3⟩ := reads_last hR
  obtain ⟨f, fd, F, hf⟩ := D (dl, ml) (List.mem_append_right _ (List.mem_singleton.mpr rfl))
  have hf' : mg d.name = some (.ref f) := by rw [← hx]; exact hf
  have e := hmg.symm.trans hf'
  cases e
  refine law_at (fe := feOf dl ml) (x := x) (fd := fd) KX G.T.g G.T.b G.T.builtins G.T.nolimit hg hobj hints (Nat.le_trans hlen hn2) hr (fun base hb hns => ?_) (fun s u => ?_) ?_ hbr (yes ns hlen)
  · have k := known_all (P := l.prog) (w := w) (base := base) (k := 0) B r1 (fun q hq => by cases hq) fun q hq => D q (List.mem_append_left _ hq)
    have g := fnG_def (P := l.prog) (w := w) (base := base) (k := 0 + ds.length) r3 r2 (fun q hq => k q (by
      rw [List.mem_append] at hq ⊢
      rcases hq with hq | hq
      · exact .inl (List.mem_reverse.mp hq)
      · exact .inr hq)) F B
    rw [← hps]
    exact g
  · have b := F.bindsA r3.bind s [u] (by rw [hps]; rfl)
    rw [hps] at b
    exact b
  · show dl.ps.length = 1
    rw [hps]
    rfl
end FK

/-! FkP: rules for the meanings: what a run ends with (wp), loops, calls. -/
namespace FK
open PySem

/-- so that what comes behind is not looked at ahead of its time -/
inductive Tag {α : Type} (m : M α) (Q : α → Rho → Prop) : Type
  | mk
inductive TagV {α : Type} (Q : α → Prop) : Type
  | mk
inductive TagF (Q : Val → Option (List D) → Prop) : Type
  | mk
def wp {α : Type} (m : M α) (ρ : Rho) (Q : α → Rho → Prop) (t : Tag m Q := .mk) : Prop := match m ρ with
  | .ok a ρ' => Q a ρ'
  | _ => False
def wpF (r : FR) (Q : Val → Option (List D) → Prop) (t : TagF Q := .mk) : Prop := match r with
  | .ok v o => Q v o
  | _ => False
theorem wp_of {α : Type} {m m' : M α} {ρ : Rho} {Q : α → Rho → Prop} (h : m = m') : wp m ρ Q = wp m' ρ Q := by rw [h]
theorem wp_fun {α : Type} {m : M α} {ρ : Rho} {Q Q' : α → Rho → Prop} (h : ∀ a ρ', Q a ρ' = Q' a ρ') : wp m ρ Q = wp m ρ Q' := by
  have e : Q = Q' := funext fun a => funext fun ρ' => h a ρ'
  rw [e]
section
variable {α β : Type} {ρ : Rho} {Q : α → Rho → Prop}
theorem wp_bnd {m : M β} {k : β → M α} : wp (bnd m k) ρ Q = wp m ρ fun a ρ' => wp (k a) ρ' Q := by
  unfold wp bnd
  cases m ρ <;> rfl
theorem wp_ret {a : α} : wp (ret a) ρ Q = Q a ρ := rfl
theorem wp_some {a : α} : wp (lift (some a)) ρ Q = Q a ρ := rfl
theorem wp_stop : wp (stop : M α) ρ Q = False := rfl
theorem wp_none : wp (lift (none : Option α)) ρ Q = False := rfl
theorem wp_ite {c : Prop} [Decidable c] {m n : M α} : wp (if c then m else n) ρ Q = if c then wp m ρ Q else wp n ρ Q := by
  by_cases h : c
  · rw [wp_of (if_pos h), if_pos h]
  · rw [wp_of (if_neg h), if_neg h]
theorem wp.mono {m : M α} {Q' : α → Rho → Prop} (h : wp m ρ Q) (f : ∀ a ρ', Q a ρ' → Q' a ρ') : wp m ρ Q' := by
  unfold wp at *
  cases e : m ρ with
  | ok a ρ' => rw [e] at h; exact f _ _ h
  | exc c ds ρ' => rw [e] at h; exact h
  | bad => rw [e] at h; exact h
theorem wp_iff {m : M α} : wp m ρ Q ↔ ∃ a ρ', m ρ = .ok a ρ' ∧ Q a ρ' := by
  unfold wp
  cases m ρ with
  | ok a ρ' => exact ⟨fun h => ⟨a, ρ', rfl, h⟩, fun ⟨_, _, e, h⟩ => by cases e; exact h⟩
  | exc c ds ρ' => exact ⟨fun h => h.elim, fun ⟨_, _, e, _⟩ => by cases e⟩
  | bad => exact ⟨fun h => h.elim, fun ⟨_, _, e, _⟩ => by cases e⟩
theorem wpF_iff {r : FR} {Q : Val → Option (List D) → Prop} : wpF r Q ↔ ∃ v o, r = .ok v o ∧ Q v o := by
  unfold wpF
  cases r with
  | ok a ρ' => exact ⟨fun h => ⟨a, ρ', rfl, h⟩, fun ⟨_, _, e, h⟩ => by cases e; exact h⟩
  | exc c ds ρ' => exact ⟨fun h => h.elim, fun ⟨_, _, e, _⟩ => by cases e⟩
  | bad => exact ⟨fun h => h.elim, fun ⟨_, _, e, _⟩ => by cases e⟩
theorem wpF.mono {r : FR} {Q Q' : Val → Option (List D) → Prop} (h : wpF r Q) (f : ∀ a ρ', Q a ρ' → Q' a ρ') : wpF r Q' := by
  obtain ⟨v, o, e, h⟩ := wpF_iff.mp h
  exact wpF_iff.mpr ⟨v, o, e, f _ _ h⟩
theorem wpF_ok {v : Val} {o : Option (List D)} {Q : Val → Option (List D) → Prop} : wpF (.ok v o) Q = Q v o := rfl
end
section
variable {ρ : Rho} {Q : Val → Rho → Prop} {QU : Unit → Rho → Prop} {QF : Fl → Rho → Prop} {QB : Bool → Rho → Prop} {QL : List D → Rho → Prop}
theorem wp_mC {d : D} : wp (mC d) ρ Q = Q (.fz d) ρ := rfl
theorem wp_mV {i : Nat} : wp (mV i) ρ Q = match ρ[i]? with
    | some (some (.fz d)) => Q (.fz d) ρ
    | some (some (.ow ds)) => Q (.fz (.list ds)) (ρ.set i (some (.fz (.list ds))))
    | _ => False := by
  unfold wp mV
  rcases ρ[i]? with _ | _ | (d | ds) <;> rfl
theorem wp_mMove {i : Nat} : wp (mMove i) ρ Q = match ρ[i]? with
    | some (some v) => Q v ρ
    | _ => False := by
  unfold wp mMove
  rcases ρ[i]? with _ | _ | v <;> rfl
theorem wp_peek {i : Nat} {QD : D → Rho → Prop} : wp (peek i) ρ QD = match ρ[i]? with
    | some (some v) => QD v.data ρ
    | _ => False := by
  unfold wp peek
  rcases ρ[i]? with _ | _ | v <;> rfl
theorem wp_setS {i : Nat} {v : Val} : wp (setS i v) ρ QU = if i < ρ.length then QU () (ρ.set i (some v)) else False := by
  unfold wp setS
  by_cases h : i < ρ.length
  · rw [if_pos h, if_pos h]
  · rw [if_neg h, if_neg h]
theorem wp_chk {i : Nat} : wp (chk i) ρ QU = if isOw ρ[i]? = true then QU () ρ else False := by
  unfold wp chk
  by_cases h : isOw ρ[i]? = true
  · rw [if_pos h, if_pos h]
  · rw [if_neg h, if_neg h]
theorem wp_chg {α : Type} {i : Nat} {f : List D → Option (α × List D)} {QA : α → Rho → Prop} : wp (chg i f) ρ QA = match ρ[i]? with
    | some (some (.ow ds)) => match f ds with
      | some (a, es) => QA a (ρ.set i (some (.ow es)))
      | none => False
    | _ => False := by
  unfold wp chg
  rcases ρ[i]? with _ | _ | (d | ds)
  · rfl
  · rfl
  · rfl
  · simp only
    cases f ds <;> rfl
theorem wp_mCall {fe : FnE} {es : List (Bool × M Val)} : wp (mCall fe es) ρ Q = wp (mItems es) ρ fun ds ρ' => ds.length = fe.np ∧ wpF (fe.f (ds.map .fz)) fun v _ => Q v ρ' := by
  unfold mCall
  rw [wp_bnd]
  refine wp_fun fun ds ρ' => ?_
  unfold wp
  simp only
  by_cases h : ds.length = fe.np
  · rw [if_pos h]
    unfold wpF
    cases fe.f (ds.map .fz) <;> simp [h]
  · rw [if_neg h]
    simp [h]
theorem wp_mCallR {fe : FnE} {i : Nat} {es : List (Bool × M Val)} : wp (mCallR fe i es) ρ Q = wp (chk i) ρ fun _ ρ1 => wp (mItems es) ρ1 fun ds ρ' => ds.length + 1 = fe.np ∧ match ρ'[i]? with
    | some (some (.ow bs)) => wpF (fe.f (.ow bs :: ds.map .fz)) fun v o => match o with
      | some bs' => Q v (ρ'.set i (some (.ow bs')))
      | none => False
    | _ => False := by
  unfold mCallR
  rw [wp_bnd]
  refine wp_fun fun u ρ1 => ?_
  rw [wp_bnd]
  refine wp_fun fun ds ρ' => ?_
  unfold wp
  simp only
  by_cases h : ds.length + 1 = fe.np
  · rw [if_pos h]
    generalize ρ'[i]? = z
    rcases z with _ | _ | (d | bs)
    · simp
    · simp
    · simp
    · simp only [h, true_and]
      unfold wpF
      cases fe.f (.ow bs :: ds.map .fz) with
      | ok v o => cases o <;> rfl
      | exc c ds o => rfl
      | bad => rfl
  · rw [if_neg h]
    simp [h]
theorem wp_sAug {i : Nat} {op : Int → Int → Int} {m : M Val} : wp (sAug i op m) ρ QF = match ρ[i]? with
    | some (some (.fz (.int a))) => wp m ρ fun v ρ1 => match v.data with
      | .int b => wp (setS i (.fz (.int (op a b)))) ρ1 fun _ ρ2 => QF .nx ρ2
      | _ => False
    | _ => False := by
  have e : wp (sAug i op m) ρ QF = match ρ[i]? with
    | some (some (.fz (.int a))) => wp (bnd m fun v => match v.data with
      | .int b => bnd (setS i (.fz (.int (op a b)))) fun _ => ret .nx
      | _ => stop) ρ QF
    | _ => False := by
    unfold wp sAug
    generalize ρ[i]? = z
    rcases z with _ | _ | (d | bs) <;> first | rfl | (cases d <;> rfl)
  rw [e]
  generalize ρ[i]? = z
  rcases z with _ | _ | (d | bs) <;> first | rfl | skip
  cases d <;> first | rfl | skip
  simp only
  rw [wp_bnd]
  refine wp_fun fun v ρ1 => ?_
  cases v.data <;> first | rfl | (simp only [wp_bnd]; rfl)
theorem wp_sAugI {i : Nat} {op : Int → Int → Int} {k m : M Val} : wp (sAugI i op k m) ρ QF = wp (chk i) ρ fun _ ρ1 => wp k ρ1 fun j ρ2 => match ρ2[i]? with
    | some (some (.ow ds)) => match j.data with
      | .int n => match getAt n ds with
        | some (.int a) => wp m ρ2 fun v ρ3 => match v.data with
          | .int b => wp (chg i (putAt (.int (op a b)) (.int n))) ρ3 fun _ ρ4 => QF .nx ρ4
          | _ => False
        | _ => False
      | _ => False
    | _ => False := by
  unfold sAugI
  rw [wp_bnd]
  refine wp_fun fun u ρ1 => ?_
  rw [wp_bnd]
  refine wp_fun fun j ρ2 => ?_
  have e : wp (fun ρ => match ρ[i]? with
      | some (some (.ow ds)) => match j.data with
        | .int n => match getAt n ds with
          | some (.int a) => (bnd m fun v => match v.data with
            | .int b => bnd (chg i (putAt (.int (op a b)) (.int n))) fun _ => ret .nx
            | _ => stop) ρ
          | _ => .bad
        | _ => .bad
      | _ => .bad) ρ2 QF = match ρ2[i]? with
      | some (some (.ow ds)) => match j.data with
        | .int n => match getAt n ds with
          | some (.int a) => wp (bnd m fun v => match v.data with
            | .int b => bnd (chg i (putAt (.int (op a b)) (.int n))) fun _ => ret .nx
            | _ => stop) ρ2 QF
          | _ => False
        | _ => False
      | _ => False := by
    unfold wp
    simp only
    generalize ρ2[i]? = z
    rcases z with _ | _ | (d | ds)
    · rfl
    · rfl
    · rfl
    · simp only
      rcases hj : j.data with _ | _ | n | _ | _ | _ | _ <;> simp only
      rcases getAt n ds with _ | d
      · rfl
      · cases d <;> rfl
  refine Eq.trans e ?_
  generalize ρ2[i]? = z
  rcases z with _ | _ | (d | ds)
  · rfl
  · rfl
  · rfl
  · simp only
    rcases hj : j.data with _ | _ | n | _ | _ | _ | _ <;> simp only
    rcases getAt n ds with _ | d
    · rfl
    · cases d <;> simp only
      rw [wp_bnd]
      refine wp_fun fun v ρ3 => ?_
      cases v.data <;> first | rfl | (simp only [wp_bnd]; rfl)
theorem wp_sSeq {a b : MS} : wp (sSeq a b) ρ QF = wp a ρ fun f ρ' => match f with
    | .nx => wp b ρ' QF
    | .bk => QF .bk ρ'
    | .ct => QF .ct ρ'
    | .rt v => QF (.rt v) ρ' := by
  unfold sSeq
  rw [wp_bnd]
  refine wp_fun fun f ρ' => ?_
  cases f <;> rfl
end

/-! ### defs -/
theorem wpF_fnOf {N : Nat} {b : MS} {vs : List Val} {Q : Val → Option (List D) → Prop} : wpF (fnOf N b vs) Q = wp b (vs.map some ++ List.replicate (N - vs.length) none) fun f ρ => match out0 vs ρ with
    | some o => match f with
      | .rt v => Q v o
      | .nx => Q (.fz .none) o
      | _ => False
    | none => False := by
  unfold fnOf wp wpF
  cases b (vs.map some ++ List.replicate (N - vs.length) none) with
  | ok f ρ =>
    simp only
    cases out0 vs ρ with
    | none => rfl
    | some o => cases f <;> rfl
  | exc c ds ρ =>
    simp only
    cases out0 vs ρ <;> rfl
  | bad => rfl

/-! ### loops -/
theorem wp_forL {α : Type} {t : Tgt} {b : MS} {enc : α → D} {Q : Fl → Rho → Prop} (I : List α → List α → Rho → Prop)
    (step : ∀ done a rest ρ, I done (a :: rest) ρ → wp (t.put (enc a)) ρ fun _ ρ1 => wp b ρ1 fun f ρ2 => match f with
      | .nx => I (done ++ [a]) rest ρ2
      | .ct => I (done ++ [a]) rest ρ2
      | .bk => Q .nx ρ2
      | .rt v => Q (.rt v) ρ2) (fin : ∀ done ρ, I done [] ρ → Q .nx ρ) :
    ∀ (rest done : List α) (ρ : Rho), I done rest ρ → wp (forL t b (rest.map enc)) ρ Q
  | [], done, ρ, h => fin done ρ h
  | a :: rest, done, ρ, h => by
    rw [List.map_cons]
    show wp (bnd (t.put (enc a)) fun _ => bnd b fun f => match f with
      | .nx => forL t b (rest.map enc)
      | .ct => forL t b (rest.map enc)
      | .bk => ret .nx
      | .rt v => ret (.rt v)) ρ _; rw [wp_bnd]
    refine (step done a rest ρ h).mono fun _ ρ1 h1 => ?_
    rw [wp_bnd]
    refine h1.mono fun f ρ2 h2 => ?_
    cases f with
    | nx => exact wp_forL I step fin rest (done ++ [a]) ρ2 h2
    | ct => exact wp_forL I step fin rest (done ++ [a]) ρ2 h2
    | bk => exact h2
    | rt v => exact h2
/-- one turn of a comprehension -/
def turn1 (t : Tgt) (c : M Bool) (e : M Val) (d : D) : M (List D) := bnd (t.put d) fun _ => bnd c fun b => if b then bnd e fun v => ret [v.data] else ret []
theorem wp_compL {α : Type} {t : Tgt} {c : M Bool} {e : M Val} {vs : List Nat} {enc : α → D} {Q : List D → Rho → Prop} (I : List α → List α → List D → Rho → Prop)
    (step : ∀ done a rest out ρ, I done (a :: rest) out ρ → wp (turn1 t c e (enc a)) ρ fun o ρ1 => I (done ++ [a]) rest (out ++ o) (wipeR ρ1 vs)) (fin : ∀ done out ρ, I done [] out ρ → Q out ρ) :
    ∀ (rest done : List α) (out : List D) (ρ : Rho), I done rest out ρ → wp (compL t c e vs (rest.map enc)) ρ fun r ρ' => Q (out ++ r) ρ'
  | [], done, out, ρ, h => by
    show Q (out ++ []) ρ
    rw [List.append_nil]
    exact fin done out ρ h
  | a :: rest, done, out, ρ, h => by
    rw [List.map_cons]
    show wp (bnd (t.put (enc a)) fun _ => bnd c fun b => bnd (if b then bnd e fun v => ret [v.data] else ret []) fun o => bnd (wipeM vs) fun _ => bnd (compL t c e vs (rest.map enc)) fun r => ret (o ++ r)) ρ _
    have s := step done a rest out ρ h
    unfold turn1 at s
    rw [wp_bnd] at s ⊢
    refine s.mono fun _ ρ1 s => ?_
    rw [wp_bnd] at s ⊢
    refine s.mono fun b ρ2 s => ?_
    rw [wp_bnd]
    refine s.mono fun o ρ3 s => ?_
    rw [wp_bnd]
    show wp (bnd (compL t c e vs (rest.map enc)) _) (wipeR ρ3 vs) _
    rw [wp_bnd]
    show wp (compL t c e vs (rest.map enc)) (wipeR ρ3 vs) _
    refine (wp_compL I step fin rest _ _ _ s).mono fun r ρ4 q => ?_
    show Q (out ++ (o ++ r)) ρ4
    rw [← List.append_assoc]
    exact q
theorem wp_mComp {vs : List Nat} {it : M (List D)} {t : Tgt} {c : M Bool} {e : M Val} {ρ : Rho} {Q : Val → Rho → Prop} :
    wp (mComp vs it t c e) ρ Q = wp it ρ fun ds ρ1 => noOw ρ1 vs = true ∧ wp (compL t c e vs ds) (wipeR ρ1 vs) fun r ρ2 => Q (.ow r) (restore ρ1 ρ2 vs) := by
  unfold mComp
  rw [wp_bnd]
  refine wp_fun fun ds ρ1 => ?_
  unfold wp
  simp only
  by_cases h : noOw ρ1 vs = true
  · rw [if_pos h]
    simp only [h, true_and]
    cases compL t c e vs ds (wipeR ρ1 vs) <;> rfl
  · rw [if_neg h]
    simp [h]
/-- a comprehension that changes nothing: what each turn gives -/
theorem wp_compP {α : Type} {t : Tgt} {c : M Bool} {e : M Val} {vs : List Nat} {enc : α → D} {Q : List D → Rho → Prop} {g : α → List D} {L : List α} {ρ : Rho}
    (step : ∀ a ∈ L, wp (turn1 t c e (enc a)) ρ fun o ρ1 => o = g a ∧ wipeR ρ1 vs = ρ) (fin : Q (L.flatMap g) ρ) : wp (compL t c e vs (L.map enc)) ρ Q := by
  refine (wp_compL (enc := enc) (I := fun done rest out ρ' => ρ' = ρ ∧ out = done.flatMap g ∧ L = done ++ rest) (Q := fun r ρ' => r = L.flatMap g ∧ ρ' = ρ) (fun done a rest out ρ' h => ?_) (fun done out ρ' h => ?_) L [] [] ρ ⟨rfl, rfl, rfl⟩).mono fun r ρ' h => ?_
  · obtain ⟨rfl, rfl, e⟩ := h
    refine (step a (by rw [e]; simp)).mono fun o ρ1 q => ⟨q.2, ?_, ?_⟩
    · rw [q.1]; simp
    · rw [e]; simp
  · obtain ⟨rfl, rfl, e⟩ := h
    exact ⟨by rw [e, List.append_nil], rfl⟩
  · obtain ⟨h1, rfl⟩ := h
    rw [show r = L.flatMap g by simpa using h1]
    exact fin

/-! ### the small steps -/
theorem put_nm {i : Nat} {d : D} : (Tgt.nm i).put d = setS i (.fz d) := by unfold Tgt.put; rfl
theorem put_tup {ts : List Tgt} {ds : List D} : (Tgt.tup ts).put (.tuple ds) = if ds.length = ts.length then Tgt.putAll ts ds else stop := by unfold Tgt.put; rfl
theorem putAll_nil : Tgt.putAll [] [] = ret () := by unfold Tgt.putAll; rfl
theorem putAll_cons {t : Tgt} {ts : List Tgt} {d : D} {ds : List D} : Tgt.putAll (t :: ts) (d :: ds) = bnd (t.put d) fun _ => Tgt.putAll ts ds := by
  conv => lhs; unfold Tgt.putAll
theorem ite_and {p q : Prop} [Decidable p] : (if p then q else False) = (p ∧ q) := by
  by_cases h : p <;> simp [h]
theorem isOw_ow {ds : List D} : isOw (some (some (.ow ds))) = true := rfl
theorem isOw_fz {d : D} : isOw (some (some (.fz d))) = false := rfl
theorem isOw_none : isOw (some none) = false := rfl
/-- an operation's answer -/
def wpV {α : Type} (o : Option α) (Q : α → Prop) (t : TagV Q := .mk) : Prop := match o with
  | some a => Q a
  | none => False
section
variable {α : Type} {ρ : Rho} {Q : Val → Rho → Prop} {QU : Unit → Rho → Prop} {QF : Fl → Rho → Prop} {QB : Bool → Rho → Prop} {QL : List D → Rho → Prop} {QA : α → Rho → Prop} {QO : Option D → Rho → Prop} {QD : D → Rho → Prop}
theorem wpV_some {a : α} {Q : α → Prop} : wpV (some a) Q = Q a := rfl
theorem wpV_none {Q : α → Prop} : wpV (none : Option α) Q = False := rfl
theorem wpV_ite {c : Prop} [Decidable c] {o : Option α} {Q : α → Prop} : wpV (if c then o else none) Q = (c ∧ wpV o Q) := by
  by_cases h : c <;> simp [h, wpV]
theorem wpV_map {β : Type} {o : Option β} {f : β → α} {Q : α → Prop} : wpV (o.map f) Q = wpV o fun b => Q (f b) := by
  cases o <;> rfl
theorem wp_lift {o : Option α} : wp (lift o) ρ QA = wpV o fun a => QA a ρ := by cases o <;> rfl
theorem wp_run_nm {i : Nat} : wp (Opd.nm i).run ρ QO = wp (peek i) ρ fun _ ρ' => QO none ρ' := by show wp (bnd (peek i) fun _ => ret none) ρ _ = _; rw [wp_bnd]; rfl
theorem wp_run_ex {m : M Val} : wp (Opd.ex m).run ρ QO = wp m ρ fun v ρ' => QO (some v.data) ρ' := by show wp (bnd m fun v => ret (some v.data)) ρ _ = _; rw [wp_bnd]; rfl
theorem wp_get_nm {i : Nat} {x : Option D} : wp ((Opd.nm i).get x) ρ QD = wp (peek i) ρ QD := rfl
theorem wp_get_ex {m : M Val} {d : D} : wp ((Opd.ex m).get (some d)) ρ QD = QD d ρ := rfl
theorem wp_mUn {op : D → Option Val} {a : Opd} : wp (mUn op a) ρ Q = wp a.run ρ fun x ρ1 => wp (a.get x) ρ1 fun d ρ2 => wpV (op d) fun v => Q v ρ2 := by
  unfold mUn
  rw [wp_bnd]
  refine wp_fun fun x ρ1 => ?_
  rw [wp_bnd]
  refine wp_fun fun d ρ2 => ?_
  rw [wp_lift]
theorem wp_mBin {op : D → D → Option Val} {a b : Opd} : wp (mBin op a b) ρ Q = wp a.run ρ fun x ρ1 => wp b.run ρ1 fun y ρ2 => wp (a.get x) ρ2 fun d ρ3 => wp (b.get y) ρ3 fun e ρ4 => wpV (op d e) fun v => Q v ρ4 := by
  unfold mBin
  rw [wp_bnd]
  refine wp_fun fun x ρ1 => ?_
  rw [wp_bnd]
  refine wp_fun fun y ρ2 => ?_
  rw [wp_bnd]
  refine wp_fun fun d ρ3 => ?_
  rw [wp_bnd]
  refine wp_fun fun e ρ4 => ?_
  rw [wp_lift]
theorem wp_runs_nil {QR : List (Option D) → Rho → Prop} : wp (runs []) ρ QR = QR [] ρ := rfl
theorem wp_runs_cons {QR : List (Option D) → Rho → Prop} {a : Opd} {as : List Opd} : wp (runs (a :: as)) ρ QR = wp a.run ρ fun x ρ1 => wp (runs as) ρ1 fun xs ρ2 => QR (x :: xs) ρ2 := by
  show wp (bnd a.run fun x => bnd (runs as) fun xs => ret (x :: xs)) ρ _ = _
  rw [wp_bnd]
  refine wp_fun fun x ρ1 => ?_
  rw [wp_bnd]
  rfl
theorem wp_gets_nil {xs : List (Option D)} : wp (gets [] xs) ρ QL = QL [] ρ := wp_of (m' := ret []) rfl
theorem wp_gets_cons {a : Opd} {as : List Opd} {x : Option D} {xs : List (Option D)} : wp (gets (a :: as) (x :: xs)) ρ QL = wp (a.get x) ρ fun d ρ1 => wp (gets as xs) ρ1 fun ds ρ2 => QL (d :: ds) ρ2 := by
  show wp (bnd (a.get x) fun d => bnd (gets as xs) fun ds => ret (d :: ds)) ρ _ = _
  rw [wp_bnd]
  refine wp_fun fun x ρ1 => ?_
  rw [wp_bnd]
  rfl
theorem wp_mFn {op : List D → Option Val} {as : List Opd} : wp (mFn op as) ρ Q = wp (runs as) ρ fun xs ρ1 => wp (gets as xs) ρ1 fun ds ρ2 => wpV (op ds) fun v => Q v ρ2 := by
  unfold mFn
  rw [wp_bnd]
  refine wp_fun fun x ρ1 => ?_
  rw [wp_bnd]
  refine wp_fun fun d ρ2 => ?_
  rw [wp_lift]
theorem wp_it_nil : wp (mItems []) ρ QL = QL [] ρ := wp_of (m' := ret []) rfl
theorem wp_it_one {m : M Val} {es : List (Bool × M Val)} : wp (mItems ((false, m) :: es)) ρ QL = wp m ρ fun v ρ1 => wp (mItems es) ρ1 fun ds ρ2 => QL (v.data :: ds) ρ2 := by
  show wp (bnd m fun v => bnd (mItems es) fun ds => ret (v.data :: ds)) ρ _ = _
  rw [wp_bnd]
  refine wp_fun fun x ρ1 => ?_
  rw [wp_bnd]
  rfl
theorem wp_it_star {m : M Val} {es : List (Bool × M Val)} : wp (mItems ((true, m) :: es)) ρ QL = wp m ρ fun v ρ1 => wpV (seqOf v.data) fun xs => wp (mItems es) ρ1 fun ds ρ2 => QL (xs ++ ds) ρ2 := by
  show wp (bnd m fun v => bnd (lift (seqOf v.data)) fun xs => bnd (mItems es) fun ds => ret (xs ++ ds)) ρ _ = _
  rw [wp_bnd]
  refine wp_fun fun x ρ1 => ?_
  rw [wp_bnd, wp_lift]
  cases seqOf x.data with
  | none => rfl
  | some xs =>
    show wp _ _ _ = wp _ _ _
    rw [wp_bnd]
    rfl
theorem wp_mTup {es : List (Bool × M Val)} : wp (mTup es) ρ Q = wp (mItems es) ρ fun ds ρ1 => szOk ds = true ∧ Q (.fz (.tuple ds)) ρ1 := by
  unfold mTup
  rw [wp_bnd]
  refine wp_fun fun ds ρ1 => ?_
  by_cases h : szOk ds = true
  · rw [if_pos h]; simp [h, wp_ret]
  · rw [if_neg h]; simp [h, wp_stop]
theorem wp_mLst {es : List (Bool × M Val)} : wp (mLst es) ρ Q = wp (mItems es) ρ fun ds ρ1 => szOk ds = true ∧ Q (.ow ds) ρ1 := by
  unfold mLst
  rw [wp_bnd]
  refine wp_fun fun ds ρ1 => ?_
  by_cases h : szOk ds = true
  · rw [if_pos h]; simp [h, wp_ret]
  · rw [if_neg h]; simp [h, wp_stop]
theorem wp_mT {a : Opd} : wp (mT a) ρ QB = wp a.run ρ fun x ρ1 => wp (a.get x) ρ1 fun d ρ2 => wpV (truth d) fun b => QB b ρ2 := by
  unfold mT
  rw [wp_bnd]
  refine wp_fun fun x ρ1 => ?_
  rw [wp_bnd]
  refine wp_fun fun d ρ2 => ?_
  rw [wp_lift]
theorem wp_mNot {c : M Bool} : wp (mNot c) ρ QB = wp c ρ fun b ρ1 => QB (!b) ρ1 := by unfold mNot; rw [wp_bnd]; rfl
theorem wp_mAnd {c e : M Bool} : wp (mAnd c e) ρ QB = wp c ρ fun b ρ1 => if b = true then wp e ρ1 QB else QB false ρ1 := by
  unfold mAnd
  rw [wp_bnd]
  refine wp_fun fun b ρ1 => ?_
  cases b <;> rfl
theorem wp_mOr {c e : M Bool} : wp (mOr c e) ρ QB = wp c ρ fun b ρ1 => if b = true then QB true ρ1 else wp e ρ1 QB := by
  unfold mOr
  rw [wp_bnd]
  refine wp_fun fun b ρ1 => ?_
  cases b <;> rfl
theorem wp_mBl {c : M Val} : wp (mBl c) ρ QB = wp c ρ fun v ρ1 => wpV (asBool v.data) fun b => QB b ρ1 := by
  unfold mBl
  rw [wp_bnd]
  refine wp_fun fun v ρ1 => ?_
  rw [wp_lift]
theorem wp_asT {c : M Val} : wp (asT c) ρ QB = wp c ρ fun v ρ1 => wpV (asBool v.data) fun b => QB b ρ1 := wp_mBl
theorem wp_mAndV {a b : M Val} : wp (mAndV a b) ρ Q = wp a ρ fun v ρ1 => wpV (asBool v.data) fun x => if x = true then wp b ρ1 Q else Q (.fz (.bool false)) ρ1 := by
  unfold mAndV
  rw [wp_bnd, wp_mBl]
  refine wp_fun fun v ρ1 => ?_
  cases asBool v.data with
  | none => rfl
  | some x => cases x <;> rfl
theorem wp_mOrV {a b : M Val} : wp (mOrV a b) ρ Q = wp a ρ fun v ρ1 => wpV (asBool v.data) fun x => if x = true then Q (.fz (.bool true)) ρ1 else wp b ρ1 Q := by
  unfold mOrV
  rw [wp_bnd, wp_mBl]
  refine wp_fun fun v ρ1 => ?_
  cases asBool v.data with
  | none => rfl
  | some x => cases x <;> rfl
theorem wp_mNotB {m : M Val} : wp (mNotB m) ρ Q = wp m ρ fun v ρ1 => wpV (asBool v.data) fun b => Q (.fz (.bool (!b))) ρ1 := by
  unfold mNotB
  rw [wp_bnd, wp_mBl]
  refine wp_fun fun v ρ1 => ?_
  cases asBool v.data <;> rfl
theorem wp_mIf {c : M Bool} {a b : M Val} : wp (mIf c a b) ρ Q = wp c ρ fun t ρ1 => if t = true then wp a ρ1 Q else wp b ρ1 Q := by
  unfold mIf
  rw [wp_bnd]
  refine wp_fun fun v ρ1 => ?_
  cases v <;> rfl
theorem wp_mYes : wp mYes ρ QB = QB true ρ := rfl
theorem wp_itSeq {m : M Val} : wp (itSeq m) ρ QL = wp m ρ fun v ρ1 => wpV (seqOf v.data) fun ds => QL ds ρ1 := by
  unfold itSeq
  rw [wp_bnd]
  refine wp_fun fun v ρ1 => ?_
  rw [wp_lift]
theorem wp_itRng {as : List Opd} : wp (itRng as) ρ QL = wp (runs as) ρ fun xs ρ1 => wp (gets as xs) ρ1 fun ds ρ2 => wpV (rngOf ds) fun v => QL v ρ2 := by
  unfold itRng
  rw [wp_bnd]
  refine wp_fun fun x ρ1 => ?_
  rw [wp_bnd]
  refine wp_fun fun d ρ2 => ?_
  rw [wp_lift]
theorem wp_itEnum {m : M Val} : wp (itEnum m) ρ QL = wp m ρ fun v ρ1 => wpV (seqOf v.data) fun ds => QL (enumL 0 ds) ρ1 := by
  unfold itEnum
  rw [wp_bnd]
  refine wp_fun fun v ρ1 => ?_
  rw [wp_bnd, wp_lift]
  cases seqOf v.data <;> rfl
theorem wp_itZip {m n : M Val} : wp (itZip m n) ρ QL = wp m ρ fun v ρ1 => wp n ρ1 fun u ρ2 => wpV (seqOf v.data) fun xs => wpV (seqOf u.data) fun ys => QL (zipL xs ys) ρ2 := by
  unfold itZip
  rw [wp_bnd]
  refine wp_fun fun v ρ1 => ?_
  rw [wp_bnd]
  refine wp_fun fun u ρ2 => ?_
  rw [wp_bnd, wp_lift]
  cases seqOf v.data with
  | none => rfl
  | some xs =>
    show wp (bnd (lift (seqOf u.data)) _) ρ2 _ = wpV (seqOf u.data) _
    rw [wp_bnd, wp_lift]
    cases seqOf u.data <;> rfl
theorem wp_lstRng {it : M (List D)} : wp (lstRng it) ρ Q = wp it ρ fun ds ρ1 => Q (.ow ds) ρ1 := by unfold lstRng; rw [wp_bnd]; rfl
theorem wp_tupRng {it : M (List D)} : wp (tupRng it) ρ Q = wp it ρ fun ds ρ1 => Q (.fz (.tuple ds)) ρ1 := by unfold tupRng; rw [wp_bnd]; rfl
theorem wp_part_none {QI : Option Int → Rho → Prop} : wp (part none) ρ QI = QI none ρ := rfl
def intOf : D → Option Int
  | .int i => some i
  | _ => none
theorem wp_part_some {m : M Val} {QI : Option Int → Rho → Prop} : wp (part (some m)) ρ QI = wp m ρ fun v ρ1 => wpV (intOf v.data) fun i => QI (some i) ρ1 := by
  unfold part
  rw [wp_bnd]
  refine wp_fun fun v ρ1 => ?_
  cases v.data <;> rfl
theorem wp_mSl {a : Opd} {lo hi : Option (M Val)} : wp (mSl a lo hi) ρ Q = wp a.run ρ fun x ρ1 => wp (part lo) ρ1 fun l ρ2 => wp (part hi) ρ2 fun h ρ3 => wp (a.get x) ρ3 fun d ρ4 => wpV (oSl d l h) fun v => Q v ρ4 := by
  unfold mSl
  rw [wp_bnd]
  refine wp_fun fun x ρ1 => ?_
  rw [wp_bnd]
  refine wp_fun fun y ρ2 => ?_
  rw [wp_bnd]
  refine wp_fun fun d ρ3 => ?_
  rw [wp_bnd]
  refine wp_fun fun e ρ4 => ?_
  rw [wp_lift]
theorem wp_put_nm {i : Nat} {d : D} : wp ((Tgt.nm i).put d) ρ QU = if i < ρ.length then QU () (ρ.set i (some (.fz d))) else False := by rw [put_nm, wp_setS]
theorem wp_put_tup {ts : List Tgt} {ds : List D} : wp ((Tgt.tup ts).put (.tuple ds)) ρ QU = (ds.length = ts.length ∧ wp (Tgt.putAll ts ds) ρ QU) := by
  rw [put_tup, wp_ite]
  by_cases h : ds.length = ts.length
  · rw [if_pos h, eq_true h, true_and]
  · rw [if_neg h, eq_false h, false_and, wp_stop]
theorem wp_putAll_nil : wp (Tgt.putAll [] []) ρ QU = QU () ρ := by rw [putAll_nil]; rfl
theorem wp_putAll_cons {t : Tgt} {ts : List Tgt} {d : D} {ds : List D} : wp (Tgt.putAll (t :: ts) (d :: ds)) ρ QU = wp (t.put d) ρ fun _ ρ1 => wp (Tgt.putAll ts ds) ρ1 QU := by rw [putAll_cons, wp_bnd]
theorem wp_sNx : wp sNx ρ QF = QF .nx ρ := rfl
theorem wp_sSet {i : Nat} {m : M Val} : wp (sSet i m) ρ QF = wp m ρ fun v ρ1 => if i < ρ1.length then QF .nx (ρ1.set i (some v)) else False := by
  unfold sSet
  rw [wp_bnd]
  refine wp_fun fun v ρ1 => ?_
  rw [wp_bnd, wp_setS]
  rfl
theorem wp_sPut {t : Tgt} {m : M Val} : wp (sPut t m) ρ QF = wp m ρ fun v ρ1 => wp (t.put v.data) ρ1 fun _ ρ2 => QF .nx ρ2 := by
  unfold sPut
  rw [wp_bnd]
  refine wp_fun fun v ρ1 => ?_
  rw [wp_bnd]
  rfl
theorem wp_temps_nil {QV : List Val → Rho → Prop} : wp (temps []) ρ QV = QV [] ρ := wp_of (m' := ret []) rfl
theorem wp_temps_cons {QV : List Val → Rho → Prop} {m : M Val} {ms : List (M Val)} : wp (temps (m :: ms)) ρ QV = wp m ρ fun v ρ1 => wp (temps ms) ρ1 fun vs ρ2 => QV (v :: vs) ρ2 := by
  show wp (bnd m fun v => bnd (temps ms) fun vs => ret (v :: vs)) ρ _ = _
  rw [wp_bnd]
  refine wp_fun fun v ρ1 => ?_
  rw [wp_bnd]
  rfl
theorem wp_setAll_nil : wp (setAll [] []) ρ QU = QU () ρ := wp_of (m' := ret ()) rfl
theorem wp_setAll_cons {i : Nat} {is : List Nat} {v : Val} {vs : List Val} : wp (setAll (i :: is) (v :: vs)) ρ QU = if i < ρ.length then wp (setAll is vs) (ρ.set i (some v)) QU else False := by
  show wp (bnd (setS i v) fun _ => setAll is vs) ρ _ = _
  rw [wp_bnd, wp_setS]
theorem wp_sPar {is : List Nat} {ms : List (M Val)} : wp (sPar is ms) ρ QF = wp (temps ms) ρ fun vs ρ1 => wp (setAll is vs) ρ1 fun _ ρ2 => QF .nx ρ2 := by
  unfold sPar
  rw [wp_bnd]
  refine wp_fun fun v ρ1 => ?_
  rw [wp_bnd]
  rfl
theorem wp_sDrop {m : M Val} : wp (sDrop m) ρ QF = wp m ρ fun _ ρ1 => QF .nx ρ1 := by unfold sDrop; rw [wp_bnd]; rfl
theorem wp_sRet {m : M Val} : wp (sRet m) ρ QF = wp m ρ fun v ρ1 => QF (.rt v) ρ1 := by unfold sRet; rw [wp_bnd]; rfl
theorem wp_sIf {c : M Bool} {a b : MS} : wp (sIf c a b) ρ QF = wp c ρ fun t ρ1 => if t = true then wp a ρ1 QF else wp b ρ1 QF := by
  unfold sIf
  rw [wp_bnd]
  refine wp_fun fun v ρ1 => ?_
  cases v <;> rfl
theorem wp_sFor {it : M (List D)} {t : Tgt} {b : MS} : wp (sFor it t b) ρ QF = wp it ρ fun ds ρ1 => wp (forL t b ds) ρ1 QF := by unfold sFor; rw [wp_bnd]
theorem wp_sItem {i : Nat} {e m : M Val} : wp (sItem i e m) ρ QF = wp m ρ fun v ρ1 => wp (chk i) ρ1 fun _ ρ2 => wp e ρ2 fun k ρ3 => wp (chg i (putAt v.data k.data)) ρ3 fun _ ρ4 => QF .nx ρ4 := by
  unfold sItem
  rw [wp_bnd]
  refine wp_fun fun v ρ1 => ?_
  rw [wp_bnd]
  refine wp_fun fun _ ρ2 => ?_
  rw [wp_bnd]
  refine wp_fun fun k ρ3 => ?_
  rw [wp_bnd]
  rfl
theorem wp_sApp {i : Nat} {m : M Val} : wp (sApp i m) ρ QF = wp (chk i) ρ fun _ ρ1 => wp m ρ1 fun v ρ2 => wp (chg i (appD v.data)) ρ2 fun _ ρ3 => QF .nx ρ3 := by
  unfold sApp
  rw [wp_bnd]
  refine wp_fun fun _ ρ1 => ?_
  rw [wp_bnd]
  refine wp_fun fun v ρ2 => ?_
  rw [wp_bnd]
  rfl
theorem wp_sIns {i : Nat} {k m : M Val} : wp (sIns i k m) ρ QF = wp (chk i) ρ fun _ ρ1 => wp k ρ1 fun j ρ2 => wp m ρ2 fun v ρ3 => wp (chg i (insD j.data v.data)) ρ3 fun _ ρ4 => QF .nx ρ4 := by
  unfold sIns
  rw [wp_bnd]
  refine wp_fun fun _ ρ1 => ?_
  rw [wp_bnd]
  refine wp_fun fun v ρ2 => ?_
  rw [wp_bnd]
  refine wp_fun fun v ρ3 => ?_
  rw [wp_bnd]
  rfl
theorem wp_turn1 {t : Tgt} {c : M Bool} {e : M Val} {d : D} : wp (turn1 t c e d) ρ QL = wp (t.put d) ρ fun _ ρ1 => wp c ρ1 fun b ρ2 => if b = true then wp e ρ2 fun v ρ3 => QL [v.data] ρ3 else QL [] ρ2 := by
  unfold turn1
  rw [wp_bnd]
  refine wp_fun fun _ ρ1 => ?_
  rw [wp_bnd]
  refine wp_fun fun b ρ2 => ?_
  cases b with
  | false => rfl
  | true =>
    show wp (bnd e _) ρ2 QL = wp e ρ2 _
    rw [wp_bnd]
    rfl
theorem wp_chg' {i : Nat} {f : List D → Option (α × List D)} : wp (chg i f) ρ QA = match ρ[i]? with
    | some (some (.ow ds)) => wpV (f ds) fun q => QA q.1 (ρ.set i (some (.ow q.2)))
    | _ => False := by
  rw [wp_chg]
  rcases ρ[i]? with _ | _ | (d | ds)
  · rfl
  · rfl
  · rfl
  · simp only
    cases f ds <;> rfl
end
/-! ### operations at what they take -/
section
variable {a b : Int} {xs ys : List D} {d e : D}
theorem dat_fz : (Val.fz d).data = d := rfl
theorem dat_ow : (Val.ow xs).data = .list xs := rfl
theorem truth_int {i : Int} : truth (.int i) = some (i != 0) := rfl
theorem truth_bool {b : Bool} : truth (.bool b) = some b := rfl
theorem truth_list {ds : List D} : truth (.list ds) = some (!ds.isEmpty) := rfl
theorem truth_tup {ds : List D} : truth (.tuple ds) = some (!ds.isEmpty) := rfl
theorem asBool_bool {b : Bool} : asBool (.bool b) = some b := rfl
theorem intOf_int : intOf (.int a) = some a := rfl
theorem seqOf_list : seqOf (.list xs) = some xs := rfl
theorem seqOf_tup : seqOf (.tuple xs) = some xs := rfl
theorem add_int : oAdd (.int a) (.int b) = some (.fz (.int (a + b))) := rfl
theorem add_tup : oAdd (.tuple xs) (.tuple ys) = if xs.length + ys.length ≤ 16777216 then some (.fz (.tuple (xs ++ ys))) else none := rfl
theorem add_list : oAdd (.list xs) (.list ys) = if xs.length + ys.length ≤ 16777216 then some (.ow (xs ++ ys)) else none := rfl
theorem sub_int : oSub (.int a) (.int b) = some (.fz (.int (a - b))) := rfl
theorem mul_int : oMul (.int a) (.int b) = if (intIn a || intIn b) = true then some (.fz (.int (a * b))) else none := rfl
theorem mul_tup : oMul (.tuple xs) (.int b) = if 1 ≤ b ∧ b ≤ 1000 ∧ xs.length ≤ 1000 then some (.fz (.tuple (List.replicate b.toNat xs).flatten)) else none := rfl
theorem mul_list : oMul (.list xs) (.int b) = if (small b && decide (xs.length * b.toNat ≤ 16777216)) = true then some (.ow (List.replicate b.toNat xs).flatten) else none := rfl
theorem mod_int : oMod (.int a) (.int b) = if 0 < b then some (.fz (.int (a % b))) else none := rfl
theorem fdiv_int : oFdiv (.int a) (.int b) = if 0 < b ∧ b < 1073741824 then some (.fz (.int (a / b))) else none := rfl
theorem neg_int : oNeg (.int a) = some (.fz (.int (-a))) := rfl
theorem lt_int : oLt (.int a) (.int b) = some (.fz (.bool (decide (a < b)))) := rfl
theorem le_int : oLe (.int a) (.int b) = some (.fz (.bool (decide (a ≤ b)))) := rfl
theorem gt_int : oGt (.int a) (.int b) = some (.fz (.bool (decide (b < a)))) := rfl
theorem ge_int : oGe (.int a) (.int b) = some (.fz (.bool (decide (b ≤ a)))) := rfl
theorem eq_int : oEq (.int a) (.int b) = some (.fz (.bool (decide (a = b)))) := rfl
theorem ne_int : oNe (.int a) (.int b) = some (.fz (.bool (!decide (a = b)))) := rfl
theorem eq_tup : oEq (.tuple xs) e = if min (PyData.tuple xs).depth e.depth ≤ 64 then some (.fz (.bool (PyData.eqv (.tuple xs) e))) else none := by
  show Option.map _ (if _ then _ else _) = _
  split <;> rfl
theorem eq_list : oEq (.list xs) e = if min (PyData.list xs).depth e.depth ≤ 64 then some (.fz (.bool (PyData.eqv (.list xs) e))) else none := by
  show Option.map _ (if _ then _ else _) = _
  split <;> rfl
theorem eq_none : oEq .none e = some (.fz (.bool (PyData.eqv .none e))) := by
  have h : eqD .none e = some (PyData.eqv .none e) := by
    show (if min (PyData.none).depth e.depth ≤ 64 then some (PyData.eqv .none e) else none) = _
    rw [if_pos (by simp [PyData.depth])]
  unfold oEq
  rw [h]
  rfl
theorem is_non : oIs d .none = some (.fz (.bool (isNon d))) := rfl
theorem isnot_non : oIsNot d .none = some (.fz (.bool (!isNon d))) := rfl
theorem sl_list {lo hi : Option Int} : oSl (.list xs) lo hi = some (.ow (cutD xs lo hi)) := rfl
theorem sl_tup {lo hi : Option Int} : oSl (.tuple xs) lo hi = some (.fz (.tuple (cutD xs lo hi))) := rfl
theorem len_list : oLen [.list xs] = some (.fz (.int xs.length)) := rfl
theorem len_tup : oLen [.tuple xs] = some (.fz (.int xs.length)) := rfl
theorem int_int : oInt [.int a] = some (.fz (.int a)) := rfl
theorem abs_int : oAbs [.int a] = some (.fz (.int (if a < 0 then -a else a))) := rfl
theorem max_2 : oMax [.int a, .int b] = some (.fz (.int (max a b))) := rfl
theorem max_3 {c : Int} : oMax [.int a, .int b, .int c] = some (.fz (.int (max (max a b) c))) := rfl
theorem min_2 : oMin [.int a, .int b] = some (.fz (.int (min a b))) := rfl
theorem min_3 {c : Int} : oMin [.int a, .int b, .int c] = some (.fz (.int (min (min a b) c))) := rfl
theorem tuple_list : oTuple [.list xs] = some (.fz (.tuple xs)) := rfl
theorem tuple_tup : oTuple [.tuple xs] = some (.fz (.tuple xs)) := rfl
theorem list_list : oList [.list xs] = some (.ow xs) := rfl
theorem list_tup : oList [.tuple xs] = some (.ow xs) := rfl
theorem app_D {ds : List D} : appD d ds = if ds.length < 16777216 then some ((), ds ++ [d]) else none := rfl
theorem ins_D {ds : List D} : insD (.int a) d ds = if 0 ≤ a ∧ a ≤ 1000000 ∧ ds.length < 16777216 then some ((), ds.take a.toNat ++ d :: ds.drop a.toNat) else none := rfl
end
end FK
namespace FK
open PySem
/-! ### items -/
theorem ixD_nat {n k : Nat} (h : k < n) : ixD n (k : Int) = some k := by
  unfold ixD L2.ixN
  rw [if_pos (by omega), if_pos (by omega), Int.toNat_natCast]
theorem oIx_list {xs : List D} {i : Int} : oIx (.list xs) (.int i) = (getAt i xs).map .fz := rfl
theorem oIx_tup {xs : List D} {i : Int} : oIx (.tuple xs) (.int i) = (getAt i xs).map .fz := rfl
theorem getAt_nat {xs : List D} {k : Nat} {d : D} (h : xs[k]? = some d) : getAt (k : Int) xs = some d := by
  have hk : k < xs.length := (List.getElem?_eq_some_iff.mp h).1
  unfold getAt
  rw [ixD_nat hk]
  exact h
theorem getAt_int {xs : List D} {k : Nat} {i : Int} {d : D} (e : i = (k : Int)) (h : xs[k]? = some d) : getAt i xs = some d := by
  rw [e]; exact getAt_nat h
theorem getAt_0 {x : D} {xs : List D} : getAt 0 (x :: xs) = some x := getAt_nat (k := 0) rfl
theorem getAt_1 {x y : D} {xs : List D} : getAt 1 (x :: y :: xs) = some y := getAt_nat (k := 1) rfl
theorem getAt_2 {x y z : D} {xs : List D} : getAt 2 (x :: y :: z :: xs) = some z := getAt_nat (k := 2) rfl
theorem getAt_3 {x y z u : D} {xs : List D} : getAt 3 (x :: y :: z :: u :: xs) = some u := getAt_nat (k := 3) rfl
theorem getAt_neg {xs : List D} {k : Nat} {d : D} (hk : 0 < k) (hl : k ≤ xs.length) (h : xs[xs.length - k]? = some d) : getAt (-(k : Int)) xs = some d := by
  unfold getAt ixD L2.ixN
  rw [if_neg (by omega), if_pos (by omega)]
  show xs[(-(k : Int) + (xs.length : Int)).toNat]? = some d
  rw [show (-(k : Int) + (xs.length : Int)).toNat = xs.length - k by omega]
  exact h
theorem getAt_last {xs : List D} {x : D} : getAt (-1) (xs ++ [x]) = some x := getAt_neg (k := 1) (by omega) (by simp) (by simp)
theorem getAt_last' {xs : List D} (h : xs ≠ []) : getAt (-1) xs = some (xs.getLast h) := by
  conv => lhs; rw [← List.dropLast_concat_getLast h]
  exact getAt_last
theorem putAt_nat {d : D} {xs : List D} {k : Nat} (h : k < xs.length) : putAt d (.int (k : Int)) xs = some ((), xs.set k d) := by
  show (ixD xs.length (k : Int)).map _ = _
  rw [ixD_nat h]
  rfl
theorem putAt_0 {d x : D} {xs : List D} : putAt d (.int 0) (x :: xs) = some ((), d :: xs) := putAt_nat (k := 0) (by simp)
theorem putAt_1 {d x y : D} {xs : List D} : putAt d (.int 1) (x :: y :: xs) = some ((), x :: d :: xs) := putAt_nat (k := 1) (by simp)
theorem putAt_2 {d x y z : D} {xs : List D} : putAt d (.int 2) (x :: y :: z :: xs) = some ((), x :: y :: d :: xs) := putAt_nat (k := 2) (by simp)
theorem small_nat {k : Nat} (h : k ≤ 1000000) : small (k : Int) = true := by
  unfold small; exact decide_eq_true (by omega)
theorem small_of {i : Int} (h1 : -1000000 ≤ i) (h2 : i ≤ 1000000) : small i = true := by
  unfold small; exact decide_eq_true ⟨h1, h2⟩
theorem rngOf1 {n : Nat} (h : n ≤ 1000000) : rngOf [.int (n : Int)] = some ((List.range n).map fun (k : Nat) => PyData.int (k : Int)) := by
  show (if small (n : Int) then some (rng 0 1 (n : Int).toNat) else none) = _
  rw [if_pos (small_nat h), Int.toNat_natCast]
  unfold rng
  congr 2
  funext k
  congr 1
  omega
theorem rngOf2 {a b : Nat} (h : a ≤ 1000000) (h2 : b ≤ 1000000) : rngOf [.int (a : Int), .int (b : Int)] = some ((List.range' a (b - a)).map fun (k : Nat) => PyData.int (k : Int)) := by
  show (if (small (a : Int) && small (b : Int)) = true then some (rng a 1 ((b : Int) - (a : Int)).toNat) else none) = _
  rw [small_nat h, small_nat h2, Bool.and_self, if_pos rfl]
  unfold rng
  rw [show ((b : Int) - (a : Int)).toNat = b - a by omega, List.range'_eq_map_range, List.map_map]
  congr 2
  funext k
  show PyData.int _ = PyData.int _
  congr 1
  push_cast
  omega
/-- range(n - 1, -1, -1) -/
theorem rngOf3 {n : Nat} (h : n ≤ 1000000) : rngOf [.int ((n : Int) - 1), .int (-1), .int (-1)] = some ((List.range n).reverse.map fun (k : Nat) => PyData.int (k : Int)) := by
  show (if (small ((n : Int) - 1) && small (-1) && decide ((-1 : Int) = -1)) = true then some (rng ((n : Int) - 1) (-1) (((n : Int) - 1) - (-1)).toNat) else none) = _
  rw [small_of (by omega) (by omega), small_of (by omega) (by omega), if_pos (by decide)]
  unfold rng
  rw [show (((n : Int) - 1) - (-1)).toNat = n by omega]
  congr 1
  apply List.ext_getElem
  · simp
  · intro i h1 h2
    simp only [List.length_map, List.length_range] at h1
    simp only [List.getElem_map, List.getElem_range, List.getElem_reverse, List.length_range]
    congr 1
    omega
theorem enumL_eq {α : Type} (enc : α → D) : ∀ (xs : List α) (k : Nat), enumL (k : Int) (xs.map enc) = (xs.zipIdx k).map fun q => PyData.tuple [.int (q.2 : Int), enc q.1]
  | [], k => rfl
  | x :: xs, k => by
    rw [List.map_cons, List.zipIdx_cons, List.map_cons]
    show PyData.tuple [.int (k : Int), enc x] :: enumL ((k : Int) + 1) (xs.map enc) = _
    rw [show ((k : Int) + 1) = ((k + 1 : Nat) : Int) by omega, enumL_eq enc xs (k + 1)]
theorem zipL_eq {α β : Type} (ea : α → D) (eb : β → D) : ∀ (xs : List α) (ys : List β), zipL (xs.map ea) (ys.map eb) = (xs.zip ys).map fun q => PyData.tuple [ea q.1, eb q.2]
  | [], _ => by simp [zipL]
  | _ :: _, [] => by simp [zipL]
  | x :: xs, y :: ys => by
    rw [List.map_cons, List.map_cons, List.zip_cons_cons, List.map_cons]
    show PyData.tuple [ea x, eb y] :: zipL _ _ = _
    rw [zipL_eq ea eb xs ys]
theorem szOk_of {α : Type} {ds : List α} (h : ds.length ≤ 16777216) : szOk ds = true := decide_eq_true h
theorem cut_tail {ds : List D} : cutD ds (some 1) none = ds.drop 1 := by
  unfold cutD
  rw [show HT.sIx ds.length 0 (some 1) = min 1 ds.length from HT.sIx_nat ds.length 0 1, HT.sIx_none]
  cases ds with
  | nil => rfl
  | cons x r =>
    rw [show min 1 (x :: r).length = 1 by rw [List.length_cons]; omega]
    show List.take ((x :: r).length - 1) r = r
    rw [List.length_cons, Nat.add_sub_cancel]
    exact List.take_length
theorem flat1 {α β : Type} {f : α → β} : ∀ xs : List α, xs.flatMap (fun a => [f a]) = xs.map f
  | [] => rfl
  | x :: xs => by rw [List.flatMap_cons, flat1 xs]; rfl
theorem flat1' {α β : Type} {f : α → β} (xs : List α) : xs.flatMap (fun a => [f a]) = xs.map f := flat1 xs
/-! ### data that may be shown and compared: w, its weight at most, k, its depth at most -/
structure RP (w k : Nat) (d : D) : Prop where
  lay : d.canLay0 = true
  dep : d.depth ≤ k
  wei : d.weight ≤ w
  sht : d.intsShort 13 = true
  sho : d.showable = true
theorem RP.mono {w w' k k' : Nat} {d : D} (h : RP w k d) (hw : w ≤ w') (hk : k ≤ k') : RP w' k' d := ⟨h.lay, Nat.le_trans h.dep hk, Nat.le_trans h.wei hw, h.sht, h.sho⟩
theorem rp_none : RP 0 0 .none := ⟨rfl, Nat.le_refl 0, Nat.le_refl 0, rfl, rfl⟩
theorem rp_bool {b : Bool} : RP 0 0 (.bool b) := ⟨rfl, Nat.le_refl 0, Nat.le_refl 0, rfl, rfl⟩
theorem rp_int {i : Int} (h : -99999999999 ≤ i) (h2 : i ≤ 99999999999) : RP 40 0 (.int i) := by
  have hn : i.natAbs < 10 ^ 12 := by
    have : (10 : Nat) ^ 12 = 1000000000000 := by decide
    omega
  have hl : i.natAbs ≠ 0 → i.natAbs.log2 < 39 := fun h0 => (Nat.log2_lt h0).mpr (by
    have : (2 : Nat) ^ 39 = 549755813888 := by decide
    omega)
  have hl2 : i.natAbs.log2 < 39 := by
    by_cases h0 : i.natAbs = 0
    · rw [h0]; decide
    · exact hl h0
  refine ⟨rfl, Nat.le_refl 0, ?_, ?_, ?_⟩
  · show (if (i == 0) = true then 0 else i.natAbs.log2 + 1) ≤ 40
    split <;> omega
  · have := PyData.intsShortAll_ints [i] fun n hm => by rw [List.mem_singleton.mp hm]; exact hn
    have e : (PyData.intsShort 13 (.int i) && true) = true := this
    rwa [Bool.and_true] at e
  · show decide (i.natAbs.log2 < 1920) = true
    exact decide_eq_true (by omega)
theorem RPs.all {w k : Nat} : ∀ {xs : List D}, (∀ x ∈ xs, RP w k x) → PyData.canLayAll0 xs = true ∧ PyData.depthAll xs ≤ k ∧ PyData.weightAll xs ≤ xs.length * (w + 1) ∧ PyData.intsShortAll 13 xs = true ∧ PyData.showableAll xs = true
  | [], _ => ⟨rfl, Nat.zero_le _, Nat.zero_le _, rfl, rfl⟩
  | x :: xs, h => by
    obtain ⟨h1, h2, h3, h4, h5⟩ := RPs.all (xs := xs) fun y hy => h y (List.mem_cons_of_mem _ hy)
    have hx := h x (List.mem_cons_self ..)
    refine ⟨?_, ?_, ?_, ?_, ?_⟩
    · show (x.canLay0 && PyData.canLayAll0 xs) = true
      rw [hx.lay, h1]; rfl
    · show max x.depth (PyData.depthAll xs) ≤ k
      exact Nat.max_le.mpr ⟨hx.dep, h2⟩
    · show x.weight + 1 + PyData.weightAll xs ≤ (xs.length + 1) * (w + 1)
      have := hx.wei
      rw [Nat.add_mul]
      omega
    · show (x.intsShort 13 && PyData.intsShortAll 13 xs) = true
      rw [hx.sht, h4]; rfl
    · show (x.showable && PyData.showableAll xs) = true
      rw [hx.sho, h5]; rfl
theorem rp_tuple {w k n : Nat} {xs : List D} (h : ∀ x ∈ xs, RP w k x) (hn : xs.length ≤ n) : RP (n * (w + 1)) (k + 1) (.tuple xs) := by
  obtain ⟨h1, h2, h3, h4, h5⟩ := RPs.all h
  refine ⟨h1, ?_, Nat.le_trans h3 (Nat.mul_le_mul_right _ hn), h4, h5⟩
  show PyData.depthAll xs + 1 ≤ k + 1
  omega
theorem rp_list {w k n : Nat} {xs : List D} (h : ∀ x ∈ xs, RP w k x) (hn : xs.length ≤ n) : RP (n * (w + 1)) (k + 1) (.list xs) := by
  obtain ⟨h1, h2, h3, h4, h5⟩ := RPs.all h
  refine ⟨h1, ?_, Nat.le_trans h3 (Nat.mul_le_mul_right _ hn), h4, h5⟩
  show PyData.depthAll xs + 1 ≤ k + 1
  omega
theorem RP.repr {w k : Nat} {d : D} (h : RP w k d) (hw : w ≤ 1048576) (hk : k ≤ 60) : reprOk d = true := by
  have lay : PyData.layable0 d = true := by
    show (d.canLay0 && decide (d.depth ≤ 64) && decide (d.weight ≤ 2 ^ 20)) = true
    have h1 := h.dep
    have h2 := h.wei
    have e : (2 : Nat) ^ 20 = 1048576 := by decide
    rw [h.lay, decide_eq_true (by omega : d.depth ≤ 64), decide_eq_true (by omega : d.weight ≤ 2 ^ 20)]
    rfl
  have hs := PyData.shown_le_of_layable0 lay h.sht
  have h1 := h.dep
  unfold reprOk
  rw [h.sho, decide_eq_true (by omega : d.shown.length ≤ 16777216), decide_eq_true (by omega : d.depth ≤ 60)]
  rfl
theorem RP.eqv {w k : Nat} {d : D} (h : RP w k d) : PyData.eqv d d = true := SeqAt.eqv_refl_plain d (PyData.plain_of_canLay0 d h.lay)
theorem eqD_same {d : D} (h : d.plain = true) (hd : d.depth ≤ 64) : eqD d d = some true := by
  unfold eqD
  split
  · simp
  · rw [if_pos (by omega), SeqAt.eqv_refl_plain d h]
theorem RP.eq {w k : Nat} {d : D} (h : RP w k d) (hk : k ≤ 64) : oEq d d = some (.fz (.bool true)) := by
  unfold oEq
  rw [eqD_same (PyData.plain_of_canLay0 d h.lay) (Nat.le_trans h.dep hk)]
  rfl
theorem RP.ne {w k : Nat} {d : D} (h : RP w k d) (hk : k ≤ 64) : oNe d d = some (.fz (.bool false)) := by
  unfold oNe
  rw [eqD_same (PyData.plain_of_canLay0 d h.lay) (Nat.le_trans h.dep hk)]
  rfl
theorem eq_str {x : Str} : oEq (.str x) (.str x) = some (.fz (.bool true)) := by
  unfold oEq
  rw [eqD_same rfl (by simp [PyData.depth])]
  rfl
theorem ne_str {x : Str} : oNe (.str x) (.str x) = some (.fz (.bool false)) := by
  unfold oNe
  rw [eqD_same rfl (by simp [PyData.depth])]
  rfl
/-! ### a list in two parts -/
theorem getAt_mid {A r : List D} {x : D} {i : Int} (h : i = (A.length : Int)) : getAt i (A ++ x :: r) = some x :=
  getAt_int h (by rw [List.getElem?_append_right (Nat.le_refl _), Nat.sub_self]; rfl)
theorem getAt_mid1 {A r : List D} {x y : D} {i : Int} (h : i = (A.length : Int) + 1) : getAt i (A ++ x :: y :: r) = some y :=
  getAt_int (k := A.length + 1) (by omega) (by rw [List.getElem?_append_right (by omega), show A.length + 1 - A.length = 1 by omega]; rfl)
theorem putAt_mid {A r : List D} {x d : D} {i : Int} (h : i = (A.length : Int)) : putAt d (.int i) (A ++ x :: r) = some ((), A ++ d :: r) := by
  rw [h, putAt_nat (by simp)]
  congr 2
  rw [List.set_append_right _ _ (Nat.le_refl _), Nat.sub_self]
  rfl
/-! ### loops over numbers -/
theorem wp_down {t : Tgt} {b : MS} {n : Nat} {Q : Fl → Rho → Prop} (J : Nat → Rho → Prop)
    (step : ∀ j ρ, j < n → J (j + 1) ρ → wp (t.put (.int (j : Int))) ρ fun _ ρ1 => wp b ρ1 fun f ρ2 => match f with
      | .nx => J j ρ2
      | .ct => J j ρ2
      | .bk => Q .nx ρ2
      | .rt v => Q (.rt v) ρ2) (fin : ∀ ρ, J 0 ρ → Q .nx ρ) {ρ : Rho} (h : J n ρ) : wp (forL t b ((List.range n).reverse.map fun (k : Nat) => PyData.int (k : Int))) ρ Q := by
  refine wp_forL (enc := fun (k : Nat) => PyData.int (k : Int)) (fun _ rest ρ => ∃ p, p ≤ n ∧ rest = (List.range p).reverse ∧ J p ρ) (fun done a rest ρ h => ?_) (fun done ρ h => ?_) _ [] ρ ⟨n, Nat.le_refl _, rfl, h⟩
  · obtain ⟨p, hp, e, hJ⟩ := h
    cases p with
    | zero => cases e
    | succ p =>
      rw [List.range_succ, List.reverse_append] at e
      obtain ⟨rfl, rfl⟩ := List.cons.inj e
      refine (step a ρ (by omega) hJ).mono fun _ ρ1 h1 => h1.mono fun f ρ2 h2 => ?_
      cases f with
      | nx => exact ⟨a, by omega, rfl, h2⟩
      | ct => exact ⟨a, by omega, rfl, h2⟩
      | bk => exact h2
      | rt v => exact h2
  · obtain ⟨p, hp, e, hJ⟩ := h
    cases p with
    | zero => exact fin ρ hJ
    | succ p =>
      rw [List.range_succ, List.reverse_append] at e
      cases e
theorem wp_up2 {t : Tgt} {b : MS} {a n : Nat} {Q : Fl → Rho → Prop} (J : Nat → Rho → Prop)
    (step : ∀ j ρ, a ≤ j → j < a + n → J j ρ → wp (t.put (.int (j : Int))) ρ fun _ ρ1 => wp b ρ1 fun f ρ2 => match f with
      | .nx => J (j + 1) ρ2
      | .ct => J (j + 1) ρ2
      | .bk => Q .nx ρ2
      | .rt v => Q (.rt v) ρ2) (fin : ∀ ρ, J (a + n) ρ → Q .nx ρ) {ρ : Rho} (h : J a ρ) : wp (forL t b ((List.range' a n).map fun (k : Nat) => PyData.int (k : Int))) ρ Q := by
  refine wp_forL (enc := fun (k : Nat) => PyData.int (k : Int)) (fun _ rest ρ => ∃ p, a ≤ p ∧ p ≤ a + n ∧ rest = List.range' p (a + n - p) ∧ J p ρ) (fun done x rest ρ h => ?_) (fun done ρ h => ?_) _ [] ρ ⟨a, Nat.le_refl _, by omega, by rw [Nat.add_sub_cancel_left], h⟩
  · obtain ⟨p, h1, hp, e, hJ⟩ := h
    obtain ⟨m, hm⟩ : ∃ m, a + n - p = m := ⟨_, rfl⟩
    rw [hm] at e
    cases m with
    | zero => cases e
    | succ m =>
      rw [List.range'_succ] at e
      obtain ⟨rfl, rfl⟩ := List.cons.inj e
      refine (step x ρ h1 (by omega) hJ).mono fun _ ρ1 h1 => h1.mono fun f ρ2 h2 => ?_
      cases f with
      | nx => exact ⟨x + 1, by omega, by omega, by rw [show a + n - (x + 1) = m by omega], h2⟩
      | ct => exact ⟨x + 1, by omega, by omega, by rw [show a + n - (x + 1) = m by omega], h2⟩
      | bk => exact h2
      | rt v => exact h2
  · obtain ⟨p, h1, hp, e, hJ⟩ := h
    obtain ⟨m, hm⟩ : ∃ m, a + n - p = m := ⟨_, rfl⟩
    rw [hm] at e
    cases m with
    | zero =>
      have : p = a + n := by omega
      rw [this] at hJ
      exact fin ρ hJ
    | succ m => rw [List.range'_succ] at e; cases e
theorem wp_up {t : Tgt} {b : MS} {n : Nat} {Q : Fl → Rho → Prop} (J : Nat → Rho → Prop)
    (step : ∀ j ρ, j < n → J j ρ → wp (t.put (.int (j : Int))) ρ fun _ ρ1 => wp b ρ1 fun f ρ2 => match f with
      | .nx => J (j + 1) ρ2
      | .ct => J (j + 1) ρ2
      | .bk => Q .nx ρ2
      | .rt v => Q (.rt v) ρ2) (fin : ∀ ρ, J n ρ → Q .nx ρ) {ρ : Rho} (h : J 0 ρ) : wp (forL t b ((List.range n).map fun (k : Nat) => PyData.int (k : Int))) ρ Q := by
  rw [List.range_eq_range']
  exact wp_up2 J (fun j ρ _ h2 h => step j ρ (by omega) h) (fun ρ h => fin ρ (by rwa [Nat.zero_add] at h)) h
theorem wp_enum {α : Type} {t : Tgt} {b : MS} {enc : α → D} {Q : Fl → Rho → Prop} (I : Nat → List α → Rho → Prop)
    (step : ∀ k a rest ρ, I k (a :: rest) ρ → wp (t.put (.tuple [.int (k : Int), enc a])) ρ fun _ ρ1 => wp b ρ1 fun f ρ2 => match f with
      | .nx => I (k + 1) rest ρ2
      | .ct => I (k + 1) rest ρ2
      | .bk => Q .nx ρ2
      | .rt v => Q (.rt v) ρ2) (fin : ∀ k ρ, I k [] ρ → Q .nx ρ) {xs : List α} {ρ : Rho} (h : I 0 xs ρ) : wp (forL t b (enumL 0 (xs.map enc))) ρ Q := by
  have go : ∀ (xs : List α) (k : Nat) (ρ : Rho), I k xs ρ → wp (forL t b (enumL (k : Int) (xs.map enc))) ρ Q := by
    intro xs
    induction xs with
    | nil => exact fun k ρ h => fin k ρ h
    | cons x xs ih =>
      intro k ρ h
      have ek : ((k : Int) + 1) = ((k + 1 : Nat) : Int) := by omega
      show wp (bnd (t.put (PyData.tuple [.int (k : Int), enc x])) fun _ => bnd b fun f => match f with
        | .nx => forL t b (enumL ((k : Int) + 1) (xs.map enc))
        | .ct => forL t b (enumL ((k : Int) + 1) (xs.map enc))
        | .bk => ret .nx
        | .rt v => ret (.rt v)) ρ Q
      rw [wp_bnd, ek]
      refine (step k x xs ρ h).mono fun _ ρ1 h1 => ?_
      rw [wp_bnd]
      refine h1.mono fun f ρ2 h2 => ?_
      cases f with
      | nx => exact ih (k + 1) ρ2 h2
      | ct => exact ih (k + 1) ρ2 h2
      | bk => exact h2
      | rt v => exact h2
  exact go xs 0 ρ h
theorem wp_zip {α β : Type} {t : Tgt} {b : MS} {ea : α → D} {eb : β → D} {Q : Fl → Rho → Prop} (I : List α → List β → Rho → Prop)
    (step : ∀ x xs y ys ρ, I (x :: xs) (y :: ys) ρ → wp (t.put (.tuple [ea x, eb y])) ρ fun _ ρ1 => wp b ρ1 fun f ρ2 => match f with
      | .nx => I xs ys ρ2
      | .ct => I xs ys ρ2
      | .bk => Q .nx ρ2
      | .rt v => Q (.rt v) ρ2) (fin : ∀ xs ys ρ, xs = [] ∨ ys = [] → I xs ys ρ → Q .nx ρ) : ∀ {xs : List α} {ys : List β} {ρ : Rho}, I xs ys ρ → wp (forL t b (zipL (xs.map ea) (ys.map eb))) ρ Q
  | [], ys, ρ, h => fin _ _ ρ (.inl rfl) h
  | x :: xs, [], ρ, h => fin _ _ ρ (.inr rfl) h
  | x :: xs, y :: ys, ρ, h => by
    show wp (bnd (t.put (PyData.tuple [ea x, eb y])) fun _ => bnd b fun f => match f with
      | .nx => forL t b (zipL (xs.map ea) (ys.map eb))
      | .ct => forL t b (zipL (xs.map ea) (ys.map eb))
      | .bk => ret .nx
      | .rt v => ret (.rt v)) ρ Q
    rw [wp_bnd]
    refine (step x xs y ys ρ h).mono fun _ ρ1 h1 => ?_
    rw [wp_bnd]
    refine h1.mono fun f ρ2 h2 => ?_
    cases f with
    | nx => exact wp_zip I step fin h2
    | ct => exact wp_zip I step fin h2
    | bk => exact h2
    | rt v => exact h2
theorem wp_compZ {α β : Type} {t : Tgt} {c : M Bool} {e : M Val} {vs : List Nat} {ea : α → D} {eb : β → D} {Q : List D → Rho → Prop} {xs : List α} {ys : List β} {ρ : Rho} (g : α → β → List D)
    (step : ∀ x y, (x, y) ∈ xs.zip ys → wp (turn1 t c e (.tuple [ea x, eb y])) ρ fun o ρ1 => o = g x y ∧ wipeR ρ1 vs = ρ) (fin : Q ((xs.zip ys).flatMap fun q => g q.1 q.2) ρ) : wp (compL t c e vs (zipL (xs.map ea) (ys.map eb))) ρ Q := by
  rw [zipL_eq]
  exact wp_compP (enc := fun q : α × β => PyData.tuple [ea q.1, eb q.2]) (g := fun q => g q.1 q.2) (fun a ha => step a.1 a.2 ha) fin
theorem wp_compE {α : Type} {t : Tgt} {c : M Bool} {e : M Val} {vs : List Nat} {ea : α → D} {Q : List D → Rho → Prop} {xs : List α} {ρ : Rho} (g : α → Nat → List D)
    (step : ∀ x k, (x, k) ∈ xs.zipIdx → wp (turn1 t c e (.tuple [.int (k : Int), ea x])) ρ fun o ρ1 => o = g x k ∧ wipeR ρ1 vs = ρ) (fin : Q (xs.zipIdx.flatMap fun q => g q.1 q.2) ρ) : wp (compL t c e vs (enumL 0 (xs.map ea))) ρ Q := by
  rw [show enumL 0 (xs.map ea) = _ from enumL_eq ea xs 0]
  exact wp_compP (enc := fun q : α × Nat => PyData.tuple [.int (q.2 : Int), ea q.1]) (g := fun q => g q.1 q.2) (fun a ha => step a.1 a.2 ha) fin
theorem putAt_mid1 {A r : List D} {x y d : D} {i : Int} (h : i = (A.length : Int) + 1) : putAt d (.int i) (A ++ x :: y :: r) = some ((), A ++ x :: d :: r) := by
  have := putAt_mid (A := A ++ [x]) (r := r) (x := y) (d := d) (i := i) (by rw [h, List.length_append]; rfl)
  rw [List.append_assoc, List.append_assoc] at this
  exact this
theorem rng_from1 {n : Nat} (h : n ≤ 1000000) : rngOf [.int 1, .int (n : Int)] = some ((List.range' 1 (n - 1)).map fun (k : Nat) => PyData.int (k : Int)) := rngOf2 (a := 1) (by omega) h
theorem rng_one {n : Nat} (h : n ≤ 1000000) : rngOf [.int (n : Int)] = some ((List.range n).map fun (k : Nat) => PyData.int (k : Int)) := rngOf1 h
theorem flat1i {α : Type} {f : α → Int} (xs : List α) : xs.flatMap (fun a => [PyData.int (f a)]) = (xs.map f).map PyData.int := by
  rw [flat1, List.map_map]; rfl
end FK

/-! FwA: the defs that the laws share: the bag. -/
namespace FW
open PySem FK
/-! known_sizes : 0 knowledge, 1 word -/
def m_known_sizes : MS := (sRet (mFn oTuple [(.ex (mComp [1] (itSeq (mBin oIx (.nm 0) (.ex (mC (.int 1))))) (.nm 1) mYes (mBin oIx (.nm 1) (.ex (mUn oNeg (.ex (mC (.int 1))))))))]))
def e_known_sizes : FnE := ⟨fnOf 2 m_known_sizes, 1, false⟩
/-! goes_up : 0 word, 1 place -/
def m_goes_up : MS := (sRet (mBin oGt (.ex (mBin oIx (.nm 0) (.ex (mBin oAdd (.nm 1) (.ex (mC (.int 1))))))) (.ex (mBin oIx (.nm 0) (.nm 1)))))
def e_goes_up : FnE := ⟨fnOf 2 m_goes_up, 2, false⟩
/-! is_nested : 0 knowledge, 1 order, 2 words, 3 place, 4 word, 5 other -/
def b1_is_nested : MS := (sIf (mAnd (mT (.ex (mCall e_goes_up [(false, (mV 4)), (false, (mV 3))]))) (mNot (mT (.ex (mCall e_goes_up [(false, (mV 5)), (false, (mV 3))])))))
  (sRet (mC (.bool false)))
  sNx)
def b2_is_nested : MS := (sFor (itZip (mV 2) (mSl (.nm 2) (some (mC (.int 1))) none)) (.tup [(.nm 4), (.nm 5)]) b1_is_nested)
def m_is_nested : MS := (sSeq (sPut (.tup [(.nm 1), (.nm 2)]) (mV 0))
  (sSeq (sFor (itRng [(.ex (mFn oLen [(.nm 1)]))]) (.nm 3) b2_is_nested)
  (sRet (mC (.bool true)))))
def e_is_nested : FnE := ⟨fnOf 6 m_is_nested, 1, false⟩
/-! are_sizes : 0 sizes, 1 many, 2 one, 3 other -/
def m_are_sizes : MS := (sSeq (sIf (mOr (asT (mBin oLt (.ex (mBin oIx (.nm 0) (.ex (mC (.int 0))))) (.ex (mC (.int 0))))) (asT (mBin oGt (.ex (mBin oIx (.nm 0) (.ex (mUn oNeg (.ex (mC (.int 1))))))) (.nm 1))))
  (sRet (mC (.bool false)))
  sNx)
  (sRet (mFn oAll [(.ex (mComp [2, 3] (itZip (mV 0) (mSl (.nm 0) (some (mC (.int 1))) none)) (.tup [(.nm 2), (.nm 3)]) mYes (mBin oLe (.nm 2) (.nm 3))))])))
def e_are_sizes : FnE := ⟨fnOf 4 m_are_sizes, 2, false⟩
/-! stepped : 0 row, 1 size, 2 many, 3 found, 4 place, 5 item -/
def b1_stepped : MS := (sApp 3 (mFn oMax [(.ex (mBin oIx (.nm 3) (.ex (mUn oNeg (.ex (mC (.int 1))))))), (.nm 5), (.ex (mBin oAdd (.ex (mBin oSub (.nm 1) (.nm 2))) (.nm 4)))]))
def b2_stepped : MS := (sItem 3 (mV 4) (mFn oMax [(.ex (mBin oIx (.nm 3) (.nm 4))), (.ex (mBin oSub (.ex (mBin oIx (.nm 3) (.ex (mBin oAdd (.nm 4) (.ex (mC (.int 1))))))) (.ex (mC (.int 1)))))]))
def m_stepped : MS := (sSeq (sPar [2, 3] [(mBin oSub (.ex (mFn oLen [(.nm 0)])) (.ex (mC (.int 1)))), (mLst [(false, (mC (.int 0)))])])
  (sSeq (sFor (itEnum (mV 0)) (.tup [(.nm 4), (.nm 5)]) b1_stepped)
  (sSeq (sSet 3 (mSl (.nm 3) (some (mC (.int 1))) none))
  (sSeq (sFor (itRng [(.ex (mBin oSub (.nm 2) (.ex (mC (.int 1))))), (.ex (mUn oNeg (.ex (mC (.int 1))))), (.ex (mUn oNeg (.ex (mC (.int 1)))))]) (.nm 4) b2_stepped)
  (sRet (mMove 3))))))
def e_stepped : FnE := ⟨fnOf 6 m_stepped, 2, false⟩
/-! tightened : 0 rows, 1 sizes, 2 words, 3 row, 4 size, 5 floor, 6 one, 7 other, 8 gap, 9 word, 10 place, 11 item -/
def b1_tightened : MS := (sItem 2 (mV 5) (mComp [6, 7] (itZip (mBin oIx (.nm 2) (.ex (mBin oSub (.nm 5) (.ex (mC (.int 1)))))) (mBin oIx (.nm 2) (.nm 5))) (.tup [(.nm 6), (.nm 7)]) mYes (mFn oMax [(.nm 6), (.nm 7)])))
def b2_tightened : MS := (sSeq (sSet 8 (mBin oSub (.ex (mBin oIx (.nm 1) (.ex (mBin oAdd (.nm 5) (.ex (mC (.int 1))))))) (.ex (mBin oIx (.nm 1) (.nm 5)))))
  (sItem 2 (mV 5) (mComp [6, 7] (itZip (mBin oIx (.nm 2) (.nm 5)) (mBin oIx (.nm 2) (.ex (mBin oAdd (.nm 5) (.ex (mC (.int 1))))))) (.tup [(.nm 6), (.nm 7)]) mYes (mFn oMax [(.nm 6), (.ex (mBin oSub (.nm 7) (.nm 8)))]))))
def b3_tightened : MS := (sIf (mT (.ex (mFn oAny [(.ex (mComp [10, 11] (itEnum (mV 9)) (.tup [(.nm 10), (.nm 11)]) mYes (mBin oGt (.nm 11) (.ex (mFn oMin [(.nm 10), (.nm 4)])))))])))
  (sRet (mC .none))
  sNx)
def m_tightened : MS := (sSeq (sIf (mNot (mT (.ex (mCall e_are_sizes [(false, (mV 1)), (false, (mBin oSub (.ex (mFn oLen [(.ex (mBin oIx (.nm 0) (.ex (mC (.int 0)))))])) (.ex (mC (.int 1)))))]))))
  (sRet (mC .none))
  sNx)
  (sSeq (sSet 2 (mComp [3, 4] (itZip (mV 0) (mV 1)) (.tup [(.nm 3), (.nm 4)]) mYes (mCall e_stepped [(false, (mV 3)), (false, (mV 4))])))
  (sSeq (sFor (itRng [(.ex (mC (.int 1))), (.ex (mFn oLen [(.nm 2)]))]) (.nm 5) b1_tightened)
  (sSeq (sFor (itRng [(.ex (mBin oSub (.ex (mFn oLen [(.nm 2)])) (.ex (mC (.int 2))))), (.ex (mUn oNeg (.ex (mC (.int 1))))), (.ex (mUn oNeg (.ex (mC (.int 1)))))]) (.nm 5) b2_tightened)
  (sSeq (sFor (itZip (mV 2) (mV 1)) (.tup [(.nm 9), (.nm 4)]) b3_tightened)
  (sRet (mFn oTuple [(.ex (mComp [9] (itSeq (mV 2)) (.nm 9) mYes (mFn oTuple [(.nm 9)])))])))))))
def e_tightened : FnE := ⟨fnOf 12 m_tightened, 2, false⟩
/-! _law_bag : 0 _law_script, 1 _law_cell -/
def m__law_bag : MS := (sRet (mLst [(false, (mC (.int 0))), (false, (mC (.int 1234567891))), (false, (mC (.int 0))), (false, (mComp [1] (itSeq (mSl (.nm 0) none (some (mC (.int 63))))) (.nm 1) mYes (mFn oAbs [(.nm 1)])))]))
def e__law_bag : FnE := ⟨fnOf 2 m__law_bag, 1, false⟩
/-! _law_take : 0 _law_bag_here, 1 _law_many, 2 _law_cell, 3 _law_stirred, 4 _law_value, 5 _law_begin, 6 _law_second -/
def m__law_take : MS := (sSeq (sIf (asT (mBin oEq (.ex (mBin oIx (.nm 0) (.ex (mC (.int 0))))) (.ex (mC (.int 0)))))
  (sSeq (sSet 2 (mBin oIx (.ex (mBin oAdd (.ex (mSl (.ex (mBin oIx (.nm 0) (.ex (mC (.int 3))))) (some (mBin oIx (.nm 0) (.ex (mC (.int 2))))) none)) (.ex (mLst [(false, (mC (.int 0)))])))) (.ex (mC (.int 0)))))
  (sSeq (sAugI 0 (fun i j => i + j) (mC (.int 2)) (mC (.int 1)))
  (sSeq (sIf (asT (mBin oGe (.nm 2) (.ex (mBin oPow (.ex (mC (.int 10))) (.ex (mC (.int 18)))))))
  (sItem 0 (mC (.int 0)) (mV 2))
  sNx)
  (sSeq (sSet 3 (mBin oAdd (.ex (mBin oAdd (.ex (mBin oMul (.ex (mBin oIx (.nm 0) (.ex (mC (.int 1))))) (.ex (mC (.int 48271))))) (.ex (mBin oMod (.ex (mFn oInt [(.nm 2)])) (.ex (mC (.int 2147483647))))))) (.ex (mBin oMul (.ex (mC (.int 7919))) (.ex (mBin oIx (.nm 0) (.ex (mC (.int 2)))))))))
  (sItem 0 (mC (.int 1)) (mBin oMod (.ex (mFn oInt [(.nm 3)])) (.ex (mC (.int 2147483647)))))))))
  sNx)
  (sSeq (sIf (asT (mBin oGt (.ex (mBin oIx (.nm 0) (.ex (mC (.int 0))))) (.ex (mC (.int 0)))))
  (sSeq (sSet 4 (mBin oMod (.ex (mFn oInt [(.ex (mBin oIx (.nm 0) (.ex (mC (.int 0)))))])) (.nm 1)))
  (sSeq (sItem 0 (mC (.int 0)) (mBin oFdiv (.ex (mFn oInt [(.ex (mBin oIx (.nm 0) (.ex (mC (.int 0)))))])) (.nm 1)))
  (sRet (mMove 4))))
  sNx)
  (sSeq (sSet 5 (mBin oMod (.ex (mFn oInt [(.ex (mBin oMul (.ex (mBin oAdd (.ex (mBin oIx (.nm 0) (.ex (mC (.int 1))))) (.ex (mC (.int 1))))) (.ex (mC (.int 39373)))))])) (.ex (mC (.int 1000000007)))))
  (sSeq (sSet 6 (mBin oMod (.ex (mFn oInt [(.ex (mBin oMul (.ex (mBin oMod (.ex (mFn oInt [(.ex (mBin oMul (.nm 5) (.nm 5)))])) (.ex (mC (.int 998244353))))) (.ex (mC (.int 30011)))))])) (.ex (mC (.int 998244353)))))
  (sRet (mBin oMod (.ex (mFn oInt [(.ex (mBin oFdiv (.nm 6) (.ex (mC (.int 7)))))])) (.nm 1)))))))
def e__law_take : FnE := ⟨fnOf 7 m__law_take, 2, true⟩
/-! _law_one : 0 _law_bag_here, 1 _law_things -/
def m__law_one : MS := (sRet (mBin oIx (.nm 1) (.ex (mCallR e__law_take 0 [(false, (mFn oLen [(.nm 1)]))]))))
def e__law_one : FnE := ⟨fnOf 2 m__law_one, 2, true⟩
/-! _law_alike : 0 _law_found, 1 _law_due -/
def m__law_alike : MS := (sRet (mAndV (mBin oEq (.nm 0) (.nm 1)) (mBin oEq (.ex (mFn oRepr [(.nm 0)])) (.ex (mFn oRepr [(.nm 1)])))))
def e__law_alike : FnE := ⟨fnOf 2 m__law_alike, 2, false⟩
/-! _law_mixed : 0 _law_bag_here, 1 _law_things, 2 _law_found, 3 _law_thing -/
def b1__law_mixed : MS := (sIns 2 (mCallR e__law_take 0 [(false, (mBin oAdd (.ex (mFn oLen [(.nm 2)])) (.ex (mC (.int 1)))))]) (mV 3))
def m__law_mixed : MS := (sSeq (sSet 2 (mLst []))
  (sSeq (sFor (itSeq (mV 1)) (.nm 3) b1__law_mixed)
  (sRet (mMove 2))))
def e__law_mixed : FnE := ⟨fnOf 4 m__law_mixed, 2, true⟩
/-! _law_house : 0 _law_bag_here, 1 _law_things, 2 _law_floors, 3 _law_rooms, 4 _law_many, 5 _law_found, 6 _law_left, 7 _law_floor -/
def b1__law_house : MS := (sIf (mAnd (asT (mBin oGt (.nm 6) (.ex (mC (.int 0))))) (asT (mBin oLt (.nm 7) (.nm 2))))
  (sSeq (sApp 5 (mFn oMin [(.nm 6), (.ex (mCallR e__law_one 0 [(false, (mLst [(false, (mC (.int 1))), (false, (mC (.int 2))), (false, (mC (.int 1))), (false, (mC (.int 3))), (false, (mC (.int 1))), (false, (mC (.int 2))), (false, (mBin oAdd (.ex (mC (.int 1))) (.ex (mCallR e__law_take 0 [(false, (mV 3))]))))]))]))]))
  (sAug 6 (fun i j => i - j) (mBin oIx (.nm 5) (.ex (mUn oNeg (.ex (mC (.int 1))))))))
  sNx)
def m__law_house : MS := (sSeq (sSet 4 (mCallR e__law_one 0 [(false, (mLst [(false, (mV 1)), (false, (mV 1)), (false, (mC (.int 3))), (false, (mC (.int 2))), (false, (mC (.int 1))), (false, (mC (.int 0))), (false, (mCallR e__law_take 0 [(false, (mBin oAdd (.nm 1) (.ex (mC (.int 1)))))]))]))]))
  (sSeq (sPar [5, 6] [(mLst []), (mV 3)])
  (sSeq (sFor (itRng [(.ex (mCallR e__law_one 0 [(false, (mLst [(false, (mV 2)), (false, (mC (.int 2))), (false, (mV 2)), (false, (mC (.int 1))), (false, (mBin oAdd (.ex (mC (.int 1))) (.ex (mCallR e__law_take 0 [(false, (mV 2))]))))]))]))]) (.nm 7) b1__law_house)
  (sRet (mTup [(false, (mFn oMin [(.nm 4), (.nm 1)])), (false, (mFn oTuple [(.nm 5)]))])))))
def e__law_house : FnE := ⟨fnOf 8 m__law_house, 4, true⟩

/-! ### the bag -/
structure Bag where
  c : Int
  s : Int
  a : Int
  cells : List Int
def Bag.d (b : Bag) : List FK.D := [.int b.c, .int b.s, .int b.a, .list (b.cells.map .int)]
theorem pow18 : oPow (.int 10) (.int 18) = some (.fz (.int 1000000000000000000)) := by
  show (if 0 ≤ (18 : Int) ∧ (18 : Int) ≤ 1000 ∧ intIn 10 = true then some (Val.fz (.int ((10 : Int) ^ (18 : Int).toNat))) else none) = _
  rw [if_pos (by decide)]
  rfl
theorem head_cells (cs : List Int) (lo : Option Int) : ∃ x xs, cutD (cs.map PyData.int) lo none ++ [.int 0] = PyData.int x :: xs := by
  have h : ∀ d ∈ cutD (cs.map PyData.int) lo none ++ [PyData.int 0], ∃ x, d = PyData.int x := by
    intro d hd
    rcases List.mem_append.mp hd with hd | hd
    · obtain ⟨x, _, e⟩ := List.mem_map.mp (List.mem_of_mem_drop (List.mem_of_mem_take hd))
      exact ⟨x, e.symm⟩
    · exact ⟨0, List.mem_singleton.mp hd⟩
  cases e : cutD (cs.map PyData.int) lo none ++ [PyData.int 0] with
  | nil => simp at e
  | cons d ds =>
    obtain ⟨x, rfl⟩ := h d (by rw [e]; exact List.mem_cons_self ..)
    exact ⟨x, ds, rfl⟩
theorem cut_len (ds : List FK.D) (lo : Option Int) : (cutD ds lo none).length ≤ ds.length := by
  unfold cutD
  rw [List.length_take, List.length_drop]
  omega
theorem take_ok (b : Bag) (n : Int) (hc : b.cells.length ≤ 1000) (h0 : 0 < n) (h1 : n < 1073741824) : wpF (e__law_take.f [.ow b.d, .fz (.int n)]) fun v o => ∃ k b', 0 ≤ k ∧ k < n ∧ v = .fz (.int k) ∧ o = some (Bag.d b') ∧ b'.cells = b.cells := by
  obtain ⟨x, xs, hx⟩ := head_cells b.cells (some b.a)
  have hl : (cutD (b.cells.map PyData.int) (some b.a) none).length + 1 ≤ 16777216 := by
    have := cut_len (b.cells.map PyData.int) (some b.a)
    rw [List.length_map] at this
    omega
  show wpF (fnOf 7 m__law_take _) _
  rw [wpF_fnOf]
  unfold m__law_take Bag.d
  have i1 : intIn 48271 = true := by decide
  have i2 : intIn 7919 = true := by decide
  have i3 : intIn 39373 = true := by decide
  have i4 : intIn 30011 = true := by decide
  simp -implicitDefEqProofs only [wp_bnd, wp_ret, wp_lift, wpV_some, wpV_none, wpV_ite, wpV_map, wp_stop, wp_ite, wp_mC, wp_mV, wp_mMove, wp_peek, wp_setS, wp_chk, wp_chg', wp_mCall, wp_mCallR, wp_sAug, wp_sAugI, wp_sSeq, wp_mComp, wp_run_nm, wp_run_ex, wp_get_nm, wp_get_ex, wp_mUn, wp_mBin, wp_runs_nil, wp_runs_cons, wp_gets_nil, wp_gets_cons, wp_mFn, wp_it_nil, wp_it_one, wp_it_star, wp_mTup, wp_mLst, wp_mT, wp_mNot, wp_mAnd, wp_mOr, wp_mBl, wp_asT, wp_mAndV, wp_mOrV, wp_mNotB, wp_mIf, wp_mYes, wp_itSeq, wp_itRng, wp_itEnum, wp_itZip, wp_lstRng, wp_tupRng, wp_part_none, wp_part_some, wp_mSl, wp_put_nm, wp_put_tup, wp_putAll_nil, wp_putAll_cons, wp_sNx, wp_sSet, wp_sPut, wp_temps_nil, wp_temps_cons, wp_setAll_nil, wp_setAll_cons, wp_sPar, wp_sDrop, wp_sRet, wp_sIf, wp_sFor, wp_sItem, wp_sApp, wp_sIns, wp_turn1, dat_fz, dat_ow, truth_int, truth_bool, truth_list, truth_tup, asBool_bool, intOf_int, seqOf_list, seqOf_tup, add_int, add_tup, add_list, sub_int, mul_int, mul_tup, mul_list, mod_int, fdiv_int, neg_int, lt_int, le_int, gt_int, ge_int, eq_int, ne_int, is_non, isnot_non, isNon, sl_list, sl_tup, len_list, len_tup, int_int, abs_int, max_2, max_3, min_2, min_3, tuple_list, tuple_tup, list_list, list_tup, app_D, ins_D, oIx_list, oIx_tup, getAt_0, getAt_1, getAt_2, getAt_3, putAt_0, putAt_1, putAt_2, ite_and, if_true, if_false, Bool.false_eq_true, ↓reduceIte, List.getElem?_cons_zero, List.getElem?_cons_succ, List.set_cons_zero, List.set_cons_succ, List.length_cons, List.length_nil, List.length_set, isOw_ow, isOw_fz, isOw_none, Nat.reduceAdd, Nat.reduceLT, Nat.reduceEqDiff, Nat.reduceSub, Int.reduceLT, Int.reduceLE, true_and, and_true, List.map_cons, List.map_nil, List.append_nil, List.nil_append, List.cons_append, List.replicate, wipeR, restore, noOw, List.all_cons, List.all_nil, Bool.not_false, Bool.not_true, Bool.and_true, Bool.and_self, szOk, Nat.reduceLeDiff, Option.getD_some, Option.getD_none, decide_eq_true_eq, Nat.zero_add, out0, List.length_map, hx, hl, pow18, i1, i2, i3, i4, h0, h1, Bool.or_true, Bool.true_or]
  have big : ∀ z : Int, (intIn (z % 1000000007) || intIn (z % 1000000007)) = true := fun z => by
    have h1 := Int.emod_nonneg z (show (1000000007 : Int) ≠ 0 by decide)
    have h2 := Int.emod_lt_of_pos z (show (0 : Int) < 1000000007 by decide)
    have h3 : intIn (z % 1000000007) = true := decide_eq_true ⟨by omega, by omega⟩
    rw [h3]
    rfl
  have fin : ∀ z c s a : Int, ∃ k, ∃ b' : Bag, 0 ≤ k ∧ k < n ∧ Val.fz (PyData.int (z % n)) = Val.fz (PyData.int k) ∧ some [PyData.int c, PyData.int s, PyData.int a, PyData.list (List.map PyData.int b.cells)] = some [PyData.int b'.c, PyData.int b'.s, PyData.int b'.a, PyData.list (List.map PyData.int b'.cells)] ∧ b'.cells = b.cells := fun z c s a =>
    ⟨z % n, ⟨c, s, a, b.cells⟩, Int.emod_nonneg z (by omega), Int.emod_lt_of_pos z h0, rfl, rfl, rfl⟩
  repeat' split
  all_goals first | exact fin _ _ _ _ | exact ⟨big _, fin _ _ _ _⟩
theorem one_ok (b : Bag) (xs : List FK.D) (hc : b.cells.length ≤ 1000) (h0 : xs ≠ []) (h1 : xs.length < 1073741824) : wpF (e__law_one.f [.ow b.d, .fz (.list xs)]) fun v o => ∃ x b', x ∈ xs ∧ v = .fz x ∧ o = some (Bag.d b') ∧ b'.cells = b.cells := by
  show wpF (fnOf 2 m__law_one _) _
  rw [wpF_fnOf]
  unfold m__law_one
  simp -implicitDefEqProofs only [wp_bnd, wp_ret, wp_lift, wpV_some, wpV_none, wpV_ite, wpV_map, wp_stop, wp_ite, wp_mC, wp_mV, wp_mMove, wp_peek, wp_setS, wp_chk, wp_chg', wp_mCall, wp_mCallR, wp_sAug, wp_sAugI, wp_sSeq, wp_mComp, wp_run_nm, wp_run_ex, wp_get_nm, wp_get_ex, wp_mUn, wp_mBin, wp_runs_nil, wp_runs_cons, wp_gets_nil, wp_gets_cons, wp_mFn, wp_it_nil, wp_it_one, wp_it_star, wp_mTup, wp_mLst, wp_mT, wp_mNot, wp_mAnd, wp_mOr, wp_mBl, wp_asT, wp_mAndV, wp_mOrV, wp_mNotB, wp_mIf, wp_mYes, wp_itSeq, wp_itRng, wp_itEnum, wp_itZip, wp_lstRng, wp_tupRng, wp_part_none, wp_part_some, wp_mSl, wp_put_nm, wp_put_tup, wp_putAll_nil, wp_putAll_cons, wp_sNx, wp_sSet, wp_sPut, wp_temps_nil, wp_temps_cons, wp_setAll_nil, wp_setAll_cons, wp_sPar, wp_sDrop, wp_sRet, wp_sIf, wp_sFor, wp_sItem, wp_sApp, wp_sIns, wp_turn1, dat_fz, dat_ow, truth_int, truth_bool, truth_list, truth_tup, asBool_bool, intOf_int, seqOf_list, seqOf_tup, add_int, add_tup, add_list, sub_int, mul_int, mul_tup, mul_list, mod_int, fdiv_int, neg_int, lt_int, le_int, gt_int, ge_int, eq_int, ne_int, is_non, isnot_non, isNon, sl_list, sl_tup, len_list, len_tup, int_int, abs_int, max_2, max_3, min_2, min_3, tuple_list, tuple_tup, list_list, list_tup, app_D, ins_D, oIx_list, oIx_tup, getAt_0, getAt_1, getAt_2, getAt_3, putAt_0, putAt_1, putAt_2, ite_and, if_true, if_false, Bool.false_eq_true, ↓reduceIte, List.getElem?_cons_zero, List.getElem?_cons_succ, List.set_cons_zero, List.set_cons_succ, List.length_cons, List.length_nil, List.length_set, isOw_ow, isOw_fz, isOw_none, Nat.reduceAdd, Nat.reduceLT, Nat.reduceEqDiff, Nat.reduceSub, Int.reduceLT, Int.reduceLE, true_and, and_true, List.map_cons, List.map_nil, List.append_nil, List.nil_append, List.cons_append, List.replicate, wipeR, restore, noOw, List.all_cons, List.all_nil, Bool.not_false, Bool.not_true, Bool.and_true, Bool.and_self, szOk, Nat.reduceLeDiff, Option.getD_some, Option.getD_none, decide_eq_true_eq, Nat.zero_add, out0, List.length_map]
  refine ⟨rfl, (take_ok b xs.length hc ?_ (by omega)).mono ?_⟩
  · cases xs with
    | nil => exact absurd rfl h0
    | cons _ _ => rw [List.length_cons]; omega
  · rintro v o ⟨k, b', k0, k1, rfl, rfl, e⟩
    obtain ⟨j, rfl⟩ := Int.eq_ofNat_of_zero_le k0
    have hj : j < xs.length := by omega
    simp -implicitDefEqProofs only [wp_bnd, wp_ret, wp_lift, wpV_some, wpV_none, wpV_ite, wpV_map, wp_stop, wp_ite, wp_mC, wp_mV, wp_mMove, wp_peek, wp_setS, wp_chk, wp_chg', wp_mCall, wp_mCallR, wp_sAug, wp_sAugI, wp_sSeq, wp_mComp, wp_run_nm, wp_run_ex, wp_get_nm, wp_get_ex, wp_mUn, wp_mBin, wp_runs_nil, wp_runs_cons, wp_gets_nil, wp_gets_cons, wp_mFn, wp_it_nil, wp_it_one, wp_it_star, wp_mTup, wp_mLst, wp_mT, wp_mNot, wp_mAnd, wp_mOr, wp_mBl, wp_asT, wp_mAndV, wp_mOrV, wp_mNotB, wp_mIf, wp_mYes, wp_itSeq, wp_itRng, wp_itEnum, wp_itZip, wp_lstRng, wp_tupRng, wp_part_none, wp_part_some, wp_mSl, wp_put_nm, wp_put_tup, wp_putAll_nil, wp_putAll_cons, wp_sNx, wp_sSet, wp_sPut, wp_temps_nil, wp_temps_cons, wp_setAll_nil, wp_setAll_cons, wp_sPar, wp_sDrop, wp_sRet, wp_sIf, wp_sFor, wp_sItem, wp_sApp, wp_sIns, wp_turn1, dat_fz, dat_ow, truth_int, truth_bool, truth_list, truth_tup, asBool_bool, intOf_int, seqOf_list, seqOf_tup, add_int, add_tup, add_list, sub_int, mul_int, mul_tup, mul_list, mod_int, fdiv_int, neg_int, lt_int, le_int, gt_int, ge_int, eq_int, ne_int, is_non, isnot_non, isNon, sl_list, sl_tup, len_list, len_tup, int_int, abs_int, max_2, max_3, min_2, min_3, tuple_list, tuple_tup, list_list, list_tup, app_D, ins_D, oIx_list, oIx_tup, getAt_0, getAt_1, getAt_2, getAt_3, putAt_0, putAt_1, putAt_2, ite_and, if_true, if_false, Bool.false_eq_true, ↓reduceIte, List.getElem?_cons_zero, List.getElem?_cons_succ, List.set_cons_zero, List.set_cons_succ, List.length_cons, List.length_nil, List.length_set, isOw_ow, isOw_fz, isOw_none, Nat.reduceAdd, Nat.reduceLT, Nat.reduceEqDiff, Nat.reduceSub, Int.reduceLT, Int.reduceLE, true_and, and_true, List.map_cons, List.map_nil, List.append_nil, List.nil_append, List.cons_append, List.replicate, wipeR, restore, noOw, List.all_cons, List.all_nil, Bool.not_false, Bool.not_true, Bool.and_true, Bool.and_self, szOk, Nat.reduceLeDiff, Option.getD_some, Option.getD_none, decide_eq_true_eq, Nat.zero_add, out0, List.length_map, getAt_nat (List.getElem?_eq_getElem hj)]
    exact ⟨_, b', List.getElem_mem hj, rfl, rfl, e⟩
theorem cut_map {α : Type} (f : α → FK.D) (xs : List α) (lo hi : Option Int) : ∃ ys : List α, cutD (xs.map f) lo hi = ys.map f ∧ (∀ y ∈ ys, y ∈ xs) := by
  unfold cutD
  rw [← List.map_drop, ← List.map_take]
  exact ⟨_, rfl, fun y hy => List.mem_of_mem_drop (List.mem_of_mem_take hy)⟩
theorem cut_to (ds : List FK.D) (k : Nat) : (cutD ds none (some (k : Int))).length ≤ k := by
  unfold cutD
  rw [List.length_take, show HT.sIx ds.length ds.length (some (k : Int)) = min k ds.length from HT.sIx_nat ds.length ds.length k]
  omega
theorem bag_ok (ns : List Int) : wpF (e__law_bag.f [.fz (.list (ns.map .int))]) fun v _ => ∃ b : Bag, v = .ow b.d ∧ b.cells.length ≤ 63 := by
  obtain ⟨ys, hy, _⟩ := cut_map PyData.int ns none (some 63)
  have hl := cut_to (ns.map PyData.int) 63
  rw [show ((63 : Nat) : Int) = 63 from rfl, hy, List.length_map] at hl
  show wpF (fnOf 2 m__law_bag _) _
  rw [wpF_fnOf]
  unfold m__law_bag
  simp -implicitDefEqProofs only [wp_bnd, wp_ret, wp_lift, wpV_some, wpV_none, wpV_ite, wpV_map, wp_stop, wp_ite, wp_mC, wp_mV, wp_mMove, wp_peek, wp_setS, wp_chk, wp_chg', wp_mCall, wp_mCallR, wp_sAug, wp_sAugI, wp_sSeq, wp_mComp, wp_run_nm, wp_run_ex, wp_get_nm, wp_get_ex, wp_mUn, wp_mBin, wp_runs_nil, wp_runs_cons, wp_gets_nil, wp_gets_cons, wp_mFn, wp_it_nil, wp_it_one, wp_it_star, wp_mTup, wp_mLst, wp_mT, wp_mNot, wp_mAnd, wp_mOr, wp_mBl, wp_asT, wp_mAndV, wp_mOrV, wp_mNotB, wp_mIf, wp_mYes, wp_itSeq, wp_itRng, wp_itEnum, wp_itZip, wp_lstRng, wp_tupRng, wp_part_none, wp_part_some, wp_mSl, wp_put_nm, wp_put_tup, wp_putAll_nil, wp_putAll_cons, wp_sNx, wp_sSet, wp_sPut, wp_temps_nil, wp_temps_cons, wp_setAll_nil, wp_setAll_cons, wp_sPar, wp_sDrop, wp_sRet, wp_sIf, wp_sFor, wp_sItem, wp_sApp, wp_sIns, wp_turn1, dat_fz, dat_ow, truth_int, truth_bool, truth_list, truth_tup, asBool_bool, intOf_int, seqOf_list, seqOf_tup, add_int, add_tup, add_list, sub_int, mul_int, mul_tup, mul_list, mod_int, fdiv_int, neg_int, lt_int, le_int, gt_int, ge_int, eq_int, ne_int, is_non, isnot_non, isNon, sl_list, sl_tup, len_list, len_tup, int_int, abs_int, max_2, max_3, min_2, min_3, tuple_list, tuple_tup, list_list, list_tup, app_D, ins_D, oIx_list, oIx_tup, getAt_0, getAt_1, getAt_2, getAt_3, putAt_0, putAt_1, putAt_2, ite_and, if_true, if_false, Bool.false_eq_true, ↓reduceIte, List.getElem?_cons_zero, List.getElem?_cons_succ, List.set_cons_zero, List.set_cons_succ, List.length_cons, List.length_nil, List.length_set, isOw_ow, isOw_fz, isOw_none, Nat.reduceAdd, Nat.reduceLT, Nat.reduceEqDiff, Nat.reduceSub, Int.reduceLT, Int.reduceLE, true_and, and_true, List.map_cons, List.map_nil, List.append_nil, List.nil_append, List.cons_append, List.replicate, wipeR, restore, noOw, List.all_cons, List.all_nil, Bool.not_false, Bool.not_true, Bool.and_true, Bool.and_self, szOk, Nat.reduceLeDiff, Option.getD_some, Option.getD_none, decide_eq_true_eq, Nat.zero_add, out0, List.length_map, hy]
  refine wp_compP (enc := PyData.int) (g := fun a => [.int (if a < 0 then -a else a)]) (fun a _ => ?_) ?_
  · simp -implicitDefEqProofs only [wp_bnd, wp_ret, wp_lift, wpV_some, wpV_none, wpV_ite, wpV_map, wp_stop, wp_ite, wp_mC, wp_mV, wp_mMove, wp_peek, wp_setS, wp_chk, wp_chg', wp_mCall, wp_mCallR, wp_sAug, wp_sAugI, wp_sSeq, wp_mComp, wp_run_nm, wp_run_ex, wp_get_nm, wp_get_ex, wp_mUn, wp_mBin, wp_runs_nil, wp_runs_cons, wp_gets_nil, wp_gets_cons, wp_mFn, wp_it_nil, wp_it_one, wp_it_star, wp_mTup, wp_mLst, wp_mT, wp_mNot, wp_mAnd, wp_mOr, wp_mBl, wp_asT, wp_mAndV, wp_mOrV, wp_mNotB, wp_mIf, wp_mYes, wp_itSeq, wp_itRng, wp_itEnum, wp_itZip, wp_lstRng, wp_tupRng, wp_part_none, wp_part_some, wp_mSl, wp_put_nm, wp_put_tup, wp_putAll_nil, wp_putAll_cons, wp_sNx, wp_sSet, wp_sPut, wp_temps_nil, wp_temps_cons, wp_setAll_nil, wp_setAll_cons, wp_sPar, wp_sDrop, wp_sRet, wp_sIf, wp_sFor, wp_sItem, wp_sApp, wp_sIns, wp_turn1, dat_fz, dat_ow, truth_int, truth_bool, truth_list, truth_tup, asBool_bool, intOf_int, seqOf_list, seqOf_tup, add_int, add_tup, add_list, sub_int, mul_int, mul_tup, mul_list, mod_int, fdiv_int, neg_int, lt_int, le_int, gt_int, ge_int, eq_int, ne_int, is_non, isnot_non, isNon, sl_list, sl_tup, len_list, len_tup, int_int, abs_int, max_2, max_3, min_2, min_3, tuple_list, tuple_tup, list_list, list_tup, app_D, ins_D, oIx_list, oIx_tup, getAt_0, getAt_1, getAt_2, getAt_3, putAt_0, putAt_1, putAt_2, ite_and, if_true, if_false, Bool.false_eq_true, ↓reduceIte, List.getElem?_cons_zero, List.getElem?_cons_succ, List.set_cons_zero, List.set_cons_succ, List.length_cons, List.length_nil, List.length_set, isOw_ow, isOw_fz, isOw_none, Nat.reduceAdd, Nat.reduceLT, Nat.reduceEqDiff, Nat.reduceSub, Int.reduceLT, Int.reduceLE, true_and, and_true, List.map_cons, List.map_nil, List.append_nil, List.nil_append, List.cons_append, List.replicate, wipeR, restore, noOw, List.all_cons, List.all_nil, Bool.not_false, Bool.not_true, Bool.and_true, Bool.and_self, szOk, Nat.reduceLeDiff, Option.getD_some, Option.getD_none, decide_eq_true_eq, Nat.zero_add, out0, List.length_map]
  · simp -implicitDefEqProofs only [wp_bnd, wp_ret, wp_lift, wpV_some, wpV_none, wpV_ite, wpV_map, wp_stop, wp_ite, wp_mC, wp_mV, wp_mMove, wp_peek, wp_setS, wp_chk, wp_chg', wp_mCall, wp_mCallR, wp_sAug, wp_sAugI, wp_sSeq, wp_mComp, wp_run_nm, wp_run_ex, wp_get_nm, wp_get_ex, wp_mUn, wp_mBin, wp_runs_nil, wp_runs_cons, wp_gets_nil, wp_gets_cons, wp_mFn, wp_it_nil, wp_it_one, wp_it_star, wp_mTup, wp_mLst, wp_mT, wp_mNot, wp_mAnd, wp_mOr, wp_mBl, wp_asT, wp_mAndV, wp_mOrV, wp_mNotB, wp_mIf, wp_mYes, wp_itSeq, wp_itRng, wp_itEnum, wp_itZip, wp_lstRng, wp_tupRng, wp_part_none, wp_part_some, wp_mSl, wp_put_nm, wp_put_tup, wp_putAll_nil, wp_putAll_cons, wp_sNx, wp_sSet, wp_sPut, wp_temps_nil, wp_temps_cons, wp_setAll_nil, wp_setAll_cons, wp_sPar, wp_sDrop, wp_sRet, wp_sIf, wp_sFor, wp_sItem, wp_sApp, wp_sIns, wp_turn1, dat_fz, dat_ow, truth_int, truth_bool, truth_list, truth_tup, asBool_bool, intOf_int, seqOf_list, seqOf_tup, add_int, add_tup, add_list, sub_int, mul_int, mul_tup, mul_list, mod_int, fdiv_int, neg_int, lt_int, le_int, gt_int, ge_int, eq_int, ne_int, is_non, isnot_non, isNon, sl_list, sl_tup, len_list, len_tup, int_int, abs_int, max_2, max_3, min_2, min_3, tuple_list, tuple_tup, list_list, list_tup, app_D, ins_D, oIx_list, oIx_tup, getAt_0, getAt_1, getAt_2, getAt_3, putAt_0, putAt_1, putAt_2, ite_and, if_true, if_false, Bool.false_eq_true, ↓reduceIte, List.getElem?_cons_zero, List.getElem?_cons_succ, List.set_cons_zero, List.set_cons_succ, List.length_cons, List.length_nil, List.length_set, isOw_ow, isOw_fz, isOw_none, Nat.reduceAdd, Nat.reduceLT, Nat.reduceEqDiff, Nat.reduceSub, Int.reduceLT, Int.reduceLE, true_and, and_true, List.map_cons, List.map_nil, List.append_nil, List.nil_append, List.cons_append, List.replicate, wipeR, restore, noOw, List.all_cons, List.all_nil, Bool.not_false, Bool.not_true, Bool.and_true, Bool.and_self, szOk, Nat.reduceLeDiff, Option.getD_some, Option.getD_none, decide_eq_true_eq, Nat.zero_add, out0, List.length_map]
    refine ⟨⟨0, 1234567891, 0, ys.map fun a => if a < 0 then -a else a⟩, ?_, ?_⟩
    · unfold Bag.d
      rw [flat1, List.map_map]
      rfl
    · show (ys.map _).length ≤ 63
      rw [List.length_map]
      exact hl
/-! ### what is alike -/
theorem alike_ok {d : FK.D} {w k : Nat} (h : RP w k d) (hw : w ≤ 1048576) (hk : k ≤ 60) : wpF (e__law_alike.f [.fz d, .fz d]) fun v _ => v = .fz (.bool true) := by
  show wpF (fnOf 2 m__law_alike _) _
  rw [wpF_fnOf]
  unfold m__law_alike
  simp -implicitDefEqProofs only [wp_bnd, wp_ret, wp_lift, wpV_some, wpV_none, wpV_ite, wpV_map, wp_stop, wp_ite, wp_mC, wp_mV, wp_mMove, wp_peek, wp_setS, wp_chk, wp_chg', wp_mCall, wp_mCallR, wp_sAug, wp_sAugI, wp_sSeq, wp_mComp, wp_run_nm, wp_run_ex, wp_get_nm, wp_get_ex, wp_mUn, wp_mBin, wp_runs_nil, wp_runs_cons, wp_gets_nil, wp_gets_cons, wp_mFn, wp_it_nil, wp_it_one, wp_it_star, wp_mTup, wp_mLst, wp_mT, wp_mNot, wp_mAnd, wp_mOr, wp_mBl, wp_asT, wp_mAndV, wp_mOrV, wp_mNotB, wp_mIf, wp_mYes, wp_itSeq, wp_itRng, wp_itEnum, wp_itZip, wp_lstRng, wp_tupRng, wp_part_none, wp_part_some, wp_mSl, wp_put_nm, wp_put_tup, wp_putAll_nil, wp_putAll_cons, wp_sNx, wp_sSet, wp_sPut, wp_temps_nil, wp_temps_cons, wp_setAll_nil, wp_setAll_cons, wp_sPar, wp_sDrop, wp_sRet, wp_sIf, wp_sFor, wp_sItem, wp_sApp, wp_sIns, wp_turn1, dat_fz, dat_ow, truth_int, truth_bool, truth_list, truth_tup, asBool_bool, intOf_int, seqOf_list, seqOf_tup, add_int, add_tup, add_list, sub_int, mul_int, mul_tup, mul_list, mod_int, fdiv_int, neg_int, lt_int, le_int, gt_int, ge_int, eq_int, ne_int, is_non, isnot_non, isNon, sl_list, sl_tup, len_list, len_tup, int_int, abs_int, max_2, max_3, min_2, min_3, tuple_list, tuple_tup, list_list, list_tup, app_D, ins_D, oIx_list, oIx_tup, getAt_0, getAt_1, getAt_2, getAt_3, putAt_0, putAt_1, putAt_2, ite_and, if_true, if_false, Bool.false_eq_true, ↓reduceIte, List.getElem?_cons_zero, List.getElem?_cons_succ, List.set_cons_zero, List.set_cons_succ, List.length_cons, List.length_nil, List.length_set, isOw_ow, isOw_fz, isOw_none, Nat.reduceAdd, Nat.reduceLT, Nat.reduceEqDiff, Nat.reduceSub, Int.reduceLT, Int.reduceLE, true_and, and_true, List.map_cons, List.map_nil, List.append_nil, List.nil_append, List.cons_append, List.replicate, wipeR, restore, noOw, List.all_cons, List.all_nil, Bool.not_false, Bool.not_true, Bool.and_true, Bool.and_self, szOk, Nat.reduceLeDiff, Option.getD_some, Option.getD_none, decide_eq_true_eq, Nat.zero_add, out0, List.length_map, h.eq (by omega : k ≤ 64), oRepr, h.repr hw hk, eq_str]
end FW

/-! FwB: the least tight words. -/
namespace FW
open PySem FK
abbrev intsD (xs : List Int) : List FK.D := xs.map PyData.int
abbrev tupI (xs : List Int) : FK.D := .tuple (intsD xs)
abbrev rowsD (rs : List (List Int)) : FK.D := .tuple (rs.map tupI)
/-- the running most -/
def st1 (m s acc : Int) (p : Nat) : List Int → List Int
  | [] => []
  | x :: xs => max (max acc x) (s - m + (p : Int)) :: st1 m s (max (max acc x) (s - m + (p : Int))) (p + 1) xs
def back : List Int → List Int
  | [] => []
  | x :: xs => match back xs with
    | [] => [x]
    | y :: ys => max x (y - 1) :: y :: ys
def stepP (row : List Int) (s : Int) : List Int := back (st1 ((row.length : Int) - 1) s 0 0 row)
theorem snoc_of {α : Type} {xs : List α} {m : Nat} (h : xs.length = m + 1) : ∃ A z, xs = A ++ [z] ∧ A.length = m := by
  have hn : xs ≠ [] := by
    intro e
    rw [e] at h
    cases h
  exact ⟨xs.dropLast, xs.getLast hn, (List.dropLast_concat_getLast hn).symm, by rw [List.length_dropLast, h]; rfl⟩
theorem ints_app (a b : List Int) : intsD (a ++ b) = intsD a ++ intsD b := List.map_append
theorem ints_one (a : Int) : intsD [a] = [PyData.int a] := rfl
theorem st1_len {m s : Int} : ∀ (xs : List Int) (acc : Int) (p : Nat), (st1 m s acc p xs).length = xs.length
  | [], _, _ => rfl
  | x :: xs, acc, p => by
    show (st1 m s _ (p + 1) xs).length + 1 = xs.length + 1
    rw [st1_len xs]
theorem back_cons (x : Int) (xs : List Int) : ∃ y ys, back (x :: xs) = y :: ys := by
  show ∃ y ys, (match back xs with
    | [] => [x]
    | y :: ys => max x (y - 1) :: y :: ys) = y :: ys
  cases back xs with
  | nil => exact ⟨_, _, rfl⟩
  | cons y ys => exact ⟨_, _, rfl⟩
theorem back_two {x y : Int} {xs ys : List Int} (h : back xs = y :: ys) : back (x :: xs) = max x (y - 1) :: y :: ys := by
  show (match back xs with
    | [] => [x]
    | y :: ys => max x (y - 1) :: y :: ys) = _
  rw [h]
theorem back_len : ∀ xs : List Int, (back xs).length = xs.length
  | [] => rfl
  | [x] => rfl
  | x :: y :: xs => by
    obtain ⟨z, zs, h⟩ := back_cons y xs
    have := back_len (y :: xs)
    rw [back_two h]
    rw [h] at this
    simp only [List.length_cons] at this ⊢
    omega
theorem stepped_ok (row : List Int) (s : Int) (h0 : row ≠ []) (h1 : row.length ≤ 1000) : wpF (e_stepped.f [.fz (tupI row), .fz (.int s)]) fun v _ => v = .ow (intsD (stepP row s)) := by
  show wpF (fnOf 6 m_stepped _) _
  rw [wpF_fnOf]
  unfold m_stepped
  simp -implicitDefEqProofs only [wp_bnd, wp_ret, wp_lift, wpV_some, wpV_none, wpV_ite, wpV_map, wp_stop, wp_ite, wp_mC, wp_mV, wp_mMove, wp_peek, wp_setS, wp_chk, wp_chg', wp_mCall, wp_mCallR, wp_sAug, wp_sAugI, wp_sSeq, wp_mComp, wp_run_nm, wp_run_ex, wp_get_nm, wp_get_ex, wp_mUn, wp_mBin, wp_runs_nil, wp_runs_cons, wp_gets_nil, wp_gets_cons, wp_mFn, wp_it_nil, wp_it_one, wp_it_star, wp_mTup, wp_mLst, wp_mT, wp_mNot, wp_mAnd, wp_mOr, wp_mBl, wp_asT, wp_mAndV, wp_mOrV, wp_mNotB, wp_mIf, wp_mYes, wp_itSeq, wp_itRng, wp_itEnum, wp_itZip, wp_lstRng, wp_tupRng, wp_part_none, wp_part_some, wp_mSl, wp_put_nm, wp_put_tup, wp_putAll_nil, wp_putAll_cons, wp_sNx, wp_sSet, wp_sPut, wp_temps_nil, wp_temps_cons, wp_setAll_nil, wp_setAll_cons, wp_sPar, wp_sDrop, wp_sRet, wp_sIf, wp_sFor, wp_sItem, wp_sApp, wp_sIns, wp_turn1, dat_fz, dat_ow, truth_int, truth_bool, truth_list, truth_tup, asBool_bool, intOf_int, seqOf_list, seqOf_tup, add_int, add_tup, add_list, sub_int, mul_int, mul_tup, mul_list, mod_int, fdiv_int, neg_int, lt_int, le_int, gt_int, ge_int, eq_int, ne_int, is_non, isnot_non, isNon, sl_list, sl_tup, len_list, len_tup, int_int, abs_int, max_2, max_3, min_2, min_3, tuple_list, tuple_tup, list_list, list_tup, app_D, ins_D, oIx_list, oIx_tup, getAt_0, getAt_1, getAt_2, getAt_3, putAt_0, putAt_1, putAt_2, ite_and, if_true, if_false, Bool.false_eq_true, ↓reduceIte, List.getElem?_cons_zero, List.getElem?_cons_succ, List.set_cons_zero, List.set_cons_succ, List.length_cons, List.length_nil, List.length_set, isOw_ow, isOw_fz, isOw_none, Nat.reduceAdd, Nat.reduceLT, Nat.reduceEqDiff, Nat.reduceSub, Int.reduceLT, Int.reduceLE, true_and, and_true, List.map_cons, List.map_nil, List.append_nil, List.nil_append, List.cons_append, List.replicate, wipeR, restore, noOw, List.all_cons, List.all_nil, Bool.not_false, Bool.not_true, Bool.and_true, Bool.and_self, szOk, Nat.reduceLeDiff, Option.getD_some, Option.getD_none, decide_eq_true_eq, Nat.zero_add, out0, List.length_map]
  refine wp_enum (enc := PyData.int) (fun p rest ρ => ∃ pre acc x4 x5, ρ = [some (.fz (tupI row)), some (.fz (.int s)), some (.fz (.int ((row.length : Int) - 1))), some (.ow (intsD pre ++ [.int acc])), x4, x5] ∧
    pre ++ acc :: st1 ((row.length : Int) - 1) s acc p rest = 0 :: st1 ((row.length : Int) - 1) s 0 0 row ∧ pre.length + 1 + rest.length = row.length + 1) (fun p x rest ρ h => ?_) (fun p ρ h => ?_) ⟨[], 0, none, none, ?_, ?_, ?_⟩
  · obtain ⟨pre, acc, x4, x5, rfl, e1, e3⟩ := h
    unfold b1_stepped
    simp -implicitDefEqProofs only [wp_bnd, wp_ret, wp_lift, wpV_some, wpV_none, wpV_ite, wpV_map, wp_stop, wp_ite, wp_mC, wp_mV, wp_mMove, wp_peek, wp_setS, wp_chk, wp_chg', wp_mCall, wp_mCallR, wp_sAug, wp_sAugI, wp_sSeq, wp_mComp, wp_run_nm, wp_run_ex, wp_get_nm, wp_get_ex, wp_mUn, wp_mBin, wp_runs_nil, wp_runs_cons, wp_gets_nil, wp_gets_cons, wp_mFn, wp_it_nil, wp_it_one, wp_it_star, wp_mTup, wp_mLst, wp_mT, wp_mNot, wp_mAnd, wp_mOr, wp_mBl, wp_asT, wp_mAndV, wp_mOrV, wp_mNotB, wp_mIf, wp_mYes, wp_itSeq, wp_itRng, wp_itEnum, wp_itZip, wp_lstRng, wp_tupRng, wp_part_none, wp_part_some, wp_mSl, wp_put_nm, wp_put_tup, wp_putAll_nil, wp_putAll_cons, wp_sNx, wp_sSet, wp_sPut, wp_temps_nil, wp_temps_cons, wp_setAll_nil, wp_setAll_cons, wp_sPar, wp_sDrop, wp_sRet, wp_sIf, wp_sFor, wp_sItem, wp_sApp, wp_sIns, wp_turn1, dat_fz, dat_ow, truth_int, truth_bool, truth_list, truth_tup, asBool_bool, intOf_int, seqOf_list, seqOf_tup, add_int, add_tup, add_list, sub_int, mul_int, mul_tup, mul_list, mod_int, fdiv_int, neg_int, lt_int, le_int, gt_int, ge_int, eq_int, ne_int, is_non, isnot_non, isNon, sl_list, sl_tup, len_list, len_tup, int_int, abs_int, max_2, max_3, min_2, min_3, tuple_list, tuple_tup, list_list, list_tup, app_D, ins_D, oIx_list, oIx_tup, getAt_0, getAt_1, getAt_2, getAt_3, putAt_0, putAt_1, putAt_2, ite_and, if_true, if_false, Bool.false_eq_true, ↓reduceIte, List.getElem?_cons_zero, List.getElem?_cons_succ, List.set_cons_zero, List.set_cons_succ, List.length_cons, List.length_nil, List.length_set, isOw_ow, isOw_fz, isOw_none, Nat.reduceAdd, Nat.reduceLT, Nat.reduceEqDiff, Nat.reduceSub, Int.reduceLT, Int.reduceLE, true_and, and_true, List.map_cons, List.map_nil, List.append_nil, List.nil_append, List.cons_append, List.replicate, wipeR, restore, noOw, List.all_cons, List.all_nil, Bool.not_false, Bool.not_true, Bool.and_true, Bool.and_self, szOk, Nat.reduceLeDiff, Option.getD_some, Option.getD_none, decide_eq_true_eq, Nat.zero_add, out0, List.length_map, getAt_last]
    refine ⟨?_, pre ++ [acc], _, _, _, by rw [ints_app, ints_one], ?_, ?_⟩
    · simp only [List.length_append, List.length_map, List.length_cons, List.length_nil] at e3 ⊢; omega
    · rw [List.append_assoc]; exact e1
    · simp only [List.length_append, List.length_cons, List.length_nil] at e3 ⊢; omega
  · obtain ⟨pre, acc, x4, x5, rfl, e1, e3⟩ := h
    obtain ⟨m, hm⟩ : ∃ m, row.length = m + 1 := ⟨row.length - 1, by
      have := List.length_pos_iff.mpr h0
      omega⟩
    have ed : (intsD pre ++ [PyData.int acc]).drop 1 = intsD (st1 ((row.length : Int) - 1) s 0 0 row) := by
      have : intsD pre ++ [PyData.int acc] = intsD (pre ++ [acc]) := by rw [ints_app, ints_one]
      rw [this, show pre ++ [acc] = 0 :: st1 ((row.length : Int) - 1) s 0 0 row from e1]
      rfl
    have hl := st1_len (m := (row.length : Int) - 1) (s := s) row 0 0
    have em : ((row.length : Int) - 1 - 1) = ((m : Int) - 1) := by omega
    generalize hL : st1 ((row.length : Int) - 1) s 0 0 row = L at ed hl
    simp -implicitDefEqProofs only [wp_bnd, wp_ret, wp_lift, wpV_some, wpV_none, wpV_ite, wpV_map, wp_stop, wp_ite, wp_mC, wp_mV, wp_mMove, wp_peek, wp_setS, wp_chk, wp_chg', wp_mCall, wp_mCallR, wp_sAug, wp_sAugI, wp_sSeq, wp_mComp, wp_run_nm, wp_run_ex, wp_get_nm, wp_get_ex, wp_mUn, wp_mBin, wp_runs_nil, wp_runs_cons, wp_gets_nil, wp_gets_cons, wp_mFn, wp_it_nil, wp_it_one, wp_it_star, wp_mTup, wp_mLst, wp_mT, wp_mNot, wp_mAnd, wp_mOr, wp_mBl, wp_asT, wp_mAndV, wp_mOrV, wp_mNotB, wp_mIf, wp_mYes, wp_itSeq, wp_itRng, wp_itEnum, wp_itZip, wp_lstRng, wp_tupRng, wp_part_none, wp_part_some, wp_mSl, wp_put_nm, wp_put_tup, wp_putAll_nil, wp_putAll_cons, wp_sNx, wp_sSet, wp_sPut, wp_temps_nil, wp_temps_cons, wp_setAll_nil, wp_setAll_cons, wp_sPar, wp_sDrop, wp_sRet, wp_sIf, wp_sFor, wp_sItem, wp_sApp, wp_sIns, wp_turn1, dat_fz, dat_ow, truth_int, truth_bool, truth_list, truth_tup, asBool_bool, intOf_int, seqOf_list, seqOf_tup, add_int, add_tup, add_list, sub_int, mul_int, mul_tup, mul_list, mod_int, fdiv_int, neg_int, lt_int, le_int, gt_int, ge_int, eq_int, ne_int, is_non, isnot_non, isNon, sl_list, sl_tup, len_list, len_tup, int_int, abs_int, max_2, max_3, min_2, min_3, tuple_list, tuple_tup, list_list, list_tup, app_D, ins_D, oIx_list, oIx_tup, getAt_0, getAt_1, getAt_2, getAt_3, putAt_0, putAt_1, putAt_2, ite_and, if_true, if_false, Bool.false_eq_true, ↓reduceIte, List.getElem?_cons_zero, List.getElem?_cons_succ, List.set_cons_zero, List.set_cons_succ, List.length_cons, List.length_nil, List.length_set, isOw_ow, isOw_fz, isOw_none, Nat.reduceAdd, Nat.reduceLT, Nat.reduceEqDiff, Nat.reduceSub, Int.reduceLT, Int.reduceLE, true_and, and_true, List.map_cons, List.map_nil, List.append_nil, List.nil_append, List.cons_append, List.replicate, wipeR, restore, noOw, List.all_cons, List.all_nil, Bool.not_false, Bool.not_true, Bool.and_true, Bool.and_self, szOk, Nat.reduceLeDiff, Option.getD_some, Option.getD_none, decide_eq_true_eq, Nat.zero_add, out0, List.length_map, cut_tail, ed, em, rngOf3 (show m ≤ 1000000 by omega)]
    refine wp_down (fun p ρ => ∃ A B y ys x4, L = A ++ B ∧ A.length = p ∧ back B = y :: ys ∧ ρ = [some (.fz (tupI row)), some (.fz (.int s)), some (.fz (.int ((row.length : Int) - 1))), some (.ow (intsD A ++ PyData.int y :: intsD ys)), x4, x5]) (fun p ρ hp h => ?_) (fun ρ h => ?_) ?_
    · obtain ⟨A, B, y, ys, x4, e1, e2, e3, rfl⟩ := h
      obtain ⟨A', x, rfl, hA⟩ := snoc_of e2
      have ei : intsD (A' ++ [x]) ++ PyData.int y :: intsD ys = intsD A' ++ PyData.int x :: PyData.int y :: intsD ys := by
        rw [ints_app, ints_one, List.append_assoc]; rfl
      have hA' : ((intsD A').length : Int) = (p : Int) := by rw [List.length_map, hA]
      unfold b2_stepped
      simp -implicitDefEqProofs only [wp_bnd, wp_ret, wp_lift, wpV_some, wpV_none, wpV_ite, wpV_map, wp_stop, wp_ite, wp_mC, wp_mV, wp_mMove, wp_peek, wp_setS, wp_chk, wp_chg', wp_mCall, wp_mCallR, wp_sAug, wp_sAugI, wp_sSeq, wp_mComp, wp_run_nm, wp_run_ex, wp_get_nm, wp_get_ex, wp_mUn, wp_mBin, wp_runs_nil, wp_runs_cons, wp_gets_nil, wp_gets_cons, wp_mFn, wp_it_nil, wp_it_one, wp_it_star, wp_mTup, wp_mLst, wp_mT, wp_mNot, wp_mAnd, wp_mOr, wp_mBl, wp_asT, wp_mAndV, wp_mOrV, wp_mNotB, wp_mIf, wp_mYes, wp_itSeq, wp_itRng, wp_itEnum, wp_itZip, wp_lstRng, wp_tupRng, wp_part_none, wp_part_some, wp_mSl, wp_put_nm, wp_put_tup, wp_putAll_nil, wp_putAll_cons, wp_sNx, wp_sSet, wp_sPut, wp_temps_nil, wp_temps_cons, wp_setAll_nil, wp_setAll_cons, wp_sPar, wp_sDrop, wp_sRet, wp_sIf, wp_sFor, wp_sItem, wp_sApp, wp_sIns, wp_turn1, dat_fz, dat_ow, truth_int, truth_bool, truth_list, truth_tup, asBool_bool, intOf_int, seqOf_list, seqOf_tup, add_int, add_tup, add_list, sub_int, mul_int, mul_tup, mul_list, mod_int, fdiv_int, neg_int, lt_int, le_int, gt_int, ge_int, eq_int, ne_int, is_non, isnot_non, isNon, sl_list, sl_tup, len_list, len_tup, int_int, abs_int, max_2, max_3, min_2, min_3, tuple_list, tuple_tup, list_list, list_tup, app_D, ins_D, oIx_list, oIx_tup, getAt_0, getAt_1, getAt_2, getAt_3, putAt_0, putAt_1, putAt_2, ite_and, if_true, if_false, Bool.false_eq_true, ↓reduceIte, List.getElem?_cons_zero, List.getElem?_cons_succ, List.set_cons_zero, List.set_cons_succ, List.length_cons, List.length_nil, List.length_set, isOw_ow, isOw_fz, isOw_none, Nat.reduceAdd, Nat.reduceLT, Nat.reduceEqDiff, Nat.reduceSub, Int.reduceLT, Int.reduceLE, true_and, and_true, List.map_cons, List.map_nil, List.append_nil, List.nil_append, List.cons_append, List.replicate, wipeR, restore, noOw, List.all_cons, List.all_nil, Bool.not_false, Bool.not_true, Bool.and_true, Bool.and_self, szOk, Nat.reduceLeDiff, Option.getD_some, Option.getD_none, decide_eq_true_eq, Nat.zero_add, out0, List.length_map, ei, getAt_mid hA'.symm, getAt_mid1 (show (p : Int) + 1 = ((intsD A').length : Int) + 1 by omega), putAt_mid hA'.symm]
      exact ⟨A', x :: B, _, y :: ys, _, by rw [e1, List.append_assoc]; rfl, hA, back_two e3, rfl⟩
    · obtain ⟨A, B, y, ys, x4, e1, e2, e3, rfl⟩ := h
      simp -implicitDefEqProofs only [wp_bnd, wp_ret, wp_lift, wpV_some, wpV_none, wpV_ite, wpV_map, wp_stop, wp_ite, wp_mC, wp_mV, wp_mMove, wp_peek, wp_setS, wp_chk, wp_chg', wp_mCall, wp_mCallR, wp_sAug, wp_sAugI, wp_sSeq, wp_mComp, wp_run_nm, wp_run_ex, wp_get_nm, wp_get_ex, wp_mUn, wp_mBin, wp_runs_nil, wp_runs_cons, wp_gets_nil, wp_gets_cons, wp_mFn, wp_it_nil, wp_it_one, wp_it_star, wp_mTup, wp_mLst, wp_mT, wp_mNot, wp_mAnd, wp_mOr, wp_mBl, wp_asT, wp_mAndV, wp_mOrV, wp_mNotB, wp_mIf, wp_mYes, wp_itSeq, wp_itRng, wp_itEnum, wp_itZip, wp_lstRng, wp_tupRng, wp_part_none, wp_part_some, wp_mSl, wp_put_nm, wp_put_tup, wp_putAll_nil, wp_putAll_cons, wp_sNx, wp_sSet, wp_sPut, wp_temps_nil, wp_temps_cons, wp_setAll_nil, wp_setAll_cons, wp_sPar, wp_sDrop, wp_sRet, wp_sIf, wp_sFor, wp_sItem, wp_sApp, wp_sIns, wp_turn1, dat_fz, dat_ow, truth_int, truth_bool, truth_list, truth_tup, asBool_bool, intOf_int, seqOf_list, seqOf_tup, add_int, add_tup, add_list, sub_int, mul_int, mul_tup, mul_list, mod_int, fdiv_int, neg_int, lt_int, le_int, gt_int, ge_int, eq_int, ne_int, is_non, isnot_non, isNon, sl_list, sl_tup, len_list, len_tup, int_int, abs_int, max_2, max_3, min_2, min_3, tuple_list, tuple_tup, list_list, list_tup, app_D, ins_D, oIx_list, oIx_tup, getAt_0, getAt_1, getAt_2, getAt_3, putAt_0, putAt_1, putAt_2, ite_and, if_true, if_false, Bool.false_eq_true, ↓reduceIte, List.getElem?_cons_zero, List.getElem?_cons_succ, List.set_cons_zero, List.set_cons_succ, List.length_cons, List.length_nil, List.length_set, isOw_ow, isOw_fz, isOw_none, Nat.reduceAdd, Nat.reduceLT, Nat.reduceEqDiff, Nat.reduceSub, Int.reduceLT, Int.reduceLE, true_and, and_true, List.map_cons, List.map_nil, List.append_nil, List.nil_append, List.cons_append, List.replicate, wipeR, restore, noOw, List.all_cons, List.all_nil, Bool.not_false, Bool.not_true, Bool.and_true, Bool.and_self, szOk, Nat.reduceLeDiff, Option.getD_some, Option.getD_none, decide_eq_true_eq, Nat.zero_add, out0, List.length_map]
      have : A = [] := List.eq_nil_of_length_eq_zero e2
      subst this
      show Val.ow (intsD (y :: ys)) = Val.ow (intsD (back (st1 ((row.length : Int) - 1) s 0 0 row)))
      rw [hL, e1, ← e3]
      rfl
    · obtain ⟨A, z, rfl, hA⟩ := snoc_of (hl.trans hm)
      exact ⟨A, [z], _, [], _, rfl, hA, rfl, by rw [ints_app, ints_one]; rfl⟩
  · rfl
  · rfl
  · show 0 + 1 + row.length = row.length + 1
    omega
end FW
namespace FW
open PySem FK
/-! ### sizes -/
def upB (xs : List Int) : Bool := (xs.zip xs.tail).all fun q => decide (q.1 ≤ q.2)
def areP (sizes : List Int) (many : Int) : Bool := match sizes with
  | [] => true
  | x :: xs => !(decide (x < 0) || decide (many < (x :: xs).getLast (List.cons_ne_nil _ _))) && upB (x :: xs)
theorem bools_map {α : Type} (f : α → Bool) : ∀ xs : List α, boolsOf (xs.map fun a => PyData.bool (f a)) = some (xs.map f)
  | [] => rfl
  | x :: xs => by
    show (boolsOf (xs.map fun a => PyData.bool (f a))).map (f x :: ·) = _
    rw [bools_map f xs]
    rfl
theorem all_map {α : Type} (f : α → Bool) (xs : List α) : oAll [.list (xs.map fun a => PyData.bool (f a))] = some (.fz (.bool (xs.all f))) := by
  show (boolsOf _).map _ = _
  rw [bools_map]
  show some (Val.fz (.bool ((xs.map f).all id))) = _
  rw [List.all_map]
  rfl
theorem any_map {α : Type} (f : α → Bool) (xs : List α) : oAny [.list (xs.map fun a => PyData.bool (f a))] = some (.fz (.bool (xs.any f))) := by
  show (boolsOf _).map _ = _
  rw [bools_map]
  show some (Val.fz (.bool ((xs.map f).any id))) = _
  rw [List.any_map]
  rfl
theorem are_sizes_ok (sizes : List Int) (many : Int) (h0 : sizes ≠ []) (h1 : sizes.length ≤ 1000) : wpF (e_are_sizes.f [.fz (tupI sizes), .fz (.int many)]) fun v _ => v = .fz (.bool (areP sizes many)) := by
  obtain ⟨x, xs, rfl⟩ := List.exists_cons_of_ne_nil h0
  have hg : getAt (-1) (intsD (x :: xs)) = some (.int ((x :: xs).getLast (List.cons_ne_nil _ _))) := by
    rw [getAt_last' (by simp), List.getLast_map]
  have hg' : getAt (-1) (PyData.int x :: xs.map PyData.int) = some (.int ((x :: xs).getLast (List.cons_ne_nil _ _))) := hg
  have hd : cutD (PyData.int x :: xs.map PyData.int) (some 1) none = xs.map PyData.int := by rw [cut_tail]; rfl
  show wpF (fnOf 4 m_are_sizes _) _
  rw [wpF_fnOf]
  unfold m_are_sizes
  simp -implicitDefEqProofs only [wp_bnd, wp_ret, wp_lift, wpV_some, wpV_none, wpV_ite, wpV_map, wp_stop, wp_ite, wp_mC, wp_mV, wp_mMove, wp_peek, wp_setS, wp_chk, wp_chg', wp_mCall, wp_mCallR, wp_sAug, wp_sAugI, wp_sSeq, wp_mComp, wp_run_nm, wp_run_ex, wp_get_nm, wp_get_ex, wp_mUn, wp_mBin, wp_runs_nil, wp_runs_cons, wp_gets_nil, wp_gets_cons, wp_mFn, wp_it_nil, wp_it_one, wp_it_star, wp_mTup, wp_mLst, wp_mT, wp_mNot, wp_mAnd, wp_mOr, wp_mBl, wp_asT, wp_mAndV, wp_mOrV, wp_mNotB, wp_mIf, wp_mYes, wp_itSeq, wp_itRng, wp_itEnum, wp_itZip, wp_lstRng, wp_tupRng, wp_part_none, wp_part_some, wp_mSl, wp_put_nm, wp_put_tup, wp_putAll_nil, wp_putAll_cons, wp_sNx, wp_sSet, wp_sPut, wp_temps_nil, wp_temps_cons, wp_setAll_nil, wp_setAll_cons, wp_sPar, wp_sDrop, wp_sRet, wp_sIf, wp_sFor, wp_sItem, wp_sApp, wp_sIns, wp_turn1, dat_fz, dat_ow, truth_int, truth_bool, truth_list, truth_tup, asBool_bool, intOf_int, seqOf_list, seqOf_tup, add_int, add_tup, add_list, sub_int, mul_int, mul_tup, mul_list, mod_int, fdiv_int, neg_int, lt_int, le_int, gt_int, ge_int, eq_int, ne_int, is_non, isnot_non, isNon, sl_list, sl_tup, len_list, len_tup, int_int, abs_int, max_2, max_3, min_2, min_3, tuple_list, tuple_tup, list_list, list_tup, app_D, ins_D, oIx_list, oIx_tup, getAt_0, getAt_1, getAt_2, getAt_3, putAt_0, putAt_1, putAt_2, ite_and, if_true, if_false, Bool.false_eq_true, ↓reduceIte, List.getElem?_cons_zero, List.getElem?_cons_succ, List.set_cons_zero, List.set_cons_succ, List.length_cons, List.length_nil, List.length_set, isOw_ow, isOw_fz, isOw_none, Nat.reduceAdd, Nat.reduceLT, Nat.reduceEqDiff, Nat.reduceSub, Int.reduceLT, Int.reduceLE, true_and, and_true, List.map_cons, List.map_nil, List.append_nil, List.nil_append, List.cons_append, List.replicate, wipeR, restore, noOw, List.all_cons, List.all_nil, Bool.not_false, Bool.not_true, Bool.and_true, Bool.and_self, szOk, Nat.reduceLeDiff, Option.getD_some, Option.getD_none, decide_eq_true_eq, Nat.zero_add, out0, List.length_map, hg', hd]
  by_cases c1 : x < 0
  · rw [if_pos c1]
    simp [areP, c1]
  · rw [if_neg c1]
    by_cases c2 : many < (x :: xs).getLast (List.cons_ne_nil _ _)
    · rw [if_pos c2]
      simp only [areP, c1, c2, decide_true, Bool.or_true, Bool.not_true, Bool.false_and]
    · rw [if_neg c2]
      refine wp_compZ (fun a b => [.bool (decide (a ≤ b))]) (fun a b _ => ?_) ?_
      · simp -implicitDefEqProofs only [wp_bnd, wp_ret, wp_lift, wpV_some, wpV_none, wpV_ite, wpV_map, wp_stop, wp_ite, wp_mC, wp_mV, wp_mMove, wp_peek, wp_setS, wp_chk, wp_chg', wp_mCall, wp_mCallR, wp_sAug, wp_sAugI, wp_sSeq, wp_mComp, wp_run_nm, wp_run_ex, wp_get_nm, wp_get_ex, wp_mUn, wp_mBin, wp_runs_nil, wp_runs_cons, wp_gets_nil, wp_gets_cons, wp_mFn, wp_it_nil, wp_it_one, wp_it_star, wp_mTup, wp_mLst, wp_mT, wp_mNot, wp_mAnd, wp_mOr, wp_mBl, wp_asT, wp_mAndV, wp_mOrV, wp_mNotB, wp_mIf, wp_mYes, wp_itSeq, wp_itRng, wp_itEnum, wp_itZip, wp_lstRng, wp_tupRng, wp_part_none, wp_part_some, wp_mSl, wp_put_nm, wp_put_tup, wp_putAll_nil, wp_putAll_cons, wp_sNx, wp_sSet, wp_sPut, wp_temps_nil, wp_temps_cons, wp_setAll_nil, wp_setAll_cons, wp_sPar, wp_sDrop, wp_sRet, wp_sIf, wp_sFor, wp_sItem, wp_sApp, wp_sIns, wp_turn1, dat_fz, dat_ow, truth_int, truth_bool, truth_list, truth_tup, asBool_bool, intOf_int, seqOf_list, seqOf_tup, add_int, add_tup, add_list, sub_int, mul_int, mul_tup, mul_list, mod_int, fdiv_int, neg_int, lt_int, le_int, gt_int, ge_int, eq_int, ne_int, is_non, isnot_non, isNon, sl_list, sl_tup, len_list, len_tup, int_int, abs_int, max_2, max_3, min_2, min_3, tuple_list, tuple_tup, list_list, list_tup, app_D, ins_D, oIx_list, oIx_tup, getAt_0, getAt_1, getAt_2, getAt_3, putAt_0, putAt_1, putAt_2, ite_and, if_true, if_false, Bool.false_eq_true, ↓reduceIte, List.getElem?_cons_zero, List.getElem?_cons_succ, List.set_cons_zero, List.set_cons_succ, List.length_cons, List.length_nil, List.length_set, isOw_ow, isOw_fz, isOw_none, Nat.reduceAdd, Nat.reduceLT, Nat.reduceEqDiff, Nat.reduceSub, Int.reduceLT, Int.reduceLE, true_and, and_true, List.map_cons, List.map_nil, List.append_nil, List.nil_append, List.cons_append, List.replicate, wipeR, restore, noOw, List.all_cons, List.all_nil, Bool.not_false, Bool.not_true, Bool.and_true, Bool.and_self, szOk, Nat.reduceLeDiff, Option.getD_some, Option.getD_none, decide_eq_true_eq, Nat.zero_add, out0, List.length_map]
      · simp -implicitDefEqProofs only [wp_bnd, wp_ret, wp_lift, wpV_some, wpV_none, wpV_ite, wpV_map, wp_stop, wp_ite, wp_mC, wp_mV, wp_mMove, wp_peek, wp_setS, wp_chk, wp_chg', wp_mCall, wp_mCallR, wp_sAug, wp_sAugI, wp_sSeq, wp_mComp, wp_run_nm, wp_run_ex, wp_get_nm, wp_get_ex, wp_mUn, wp_mBin, wp_runs_nil, wp_runs_cons, wp_gets_nil, wp_gets_cons, wp_mFn, wp_it_nil, wp_it_one, wp_it_star, wp_mTup, wp_mLst, wp_mT, wp_mNot, wp_mAnd, wp_mOr, wp_mBl, wp_asT, wp_mAndV, wp_mOrV, wp_mNotB, wp_mIf, wp_mYes, wp_itSeq, wp_itRng, wp_itEnum, wp_itZip, wp_lstRng, wp_tupRng, wp_part_none, wp_part_some, wp_mSl, wp_put_nm, wp_put_tup, wp_putAll_nil, wp_putAll_cons, wp_sNx, wp_sSet, wp_sPut, wp_temps_nil, wp_temps_cons, wp_setAll_nil, wp_setAll_cons, wp_sPar, wp_sDrop, wp_sRet, wp_sIf, wp_sFor, wp_sItem, wp_sApp, wp_sIns, wp_turn1, dat_fz, dat_ow, truth_int, truth_bool, truth_list, truth_tup, asBool_bool, intOf_int, seqOf_list, seqOf_tup, add_int, add_tup, add_list, sub_int, mul_int, mul_tup, mul_list, mod_int, fdiv_int, neg_int, lt_int, le_int, gt_int, ge_int, eq_int, ne_int, is_non, isnot_non, isNon, sl_list, sl_tup, len_list, len_tup, int_int, abs_int, max_2, max_3, min_2, min_3, tuple_list, tuple_tup, list_list, list_tup, app_D, ins_D, oIx_list, oIx_tup, getAt_0, getAt_1, getAt_2, getAt_3, putAt_0, putAt_1, putAt_2, ite_and, if_true, if_false, Bool.false_eq_true, ↓reduceIte, List.getElem?_cons_zero, List.getElem?_cons_succ, List.set_cons_zero, List.set_cons_succ, List.length_cons, List.length_nil, List.length_set, isOw_ow, isOw_fz, isOw_none, Nat.reduceAdd, Nat.reduceLT, Nat.reduceEqDiff, Nat.reduceSub, Int.reduceLT, Int.reduceLE, true_and, and_true, List.map_cons, List.map_nil, List.append_nil, List.nil_append, List.cons_append, List.replicate, wipeR, restore, noOw, List.all_cons, List.all_nil, Bool.not_false, Bool.not_true, Bool.and_true, Bool.and_self, szOk, Nat.reduceLeDiff, Option.getD_some, Option.getD_none, decide_eq_true_eq, Nat.zero_add, out0, List.length_map, flat1, all_map]
        simp [areP, c1, c2, upB]
end FW
namespace FW
open PySem FK
/-! ### tightened -/
abbrev lisI (xs : List Int) : FK.D := .list (intsD xs)
def mx (a b : List Int) : List Int := (a.zip b).map fun q => max q.1 q.2
def mxg (g : Int) (a b : List Int) : List Int := (a.zip b).map fun q => max q.1 (q.2 - g)
def upGo (prev : List Int) : List (List Int) → List (List Int)
  | [] => []
  | w :: ws => mx prev w :: upGo (mx prev w) ws
def upP : List (List Int) → List (List Int)
  | [] => []
  | w :: ws => w :: upGo w ws
def dnP : List Int → List (List Int) → List (List Int)
  | s :: s' :: ss, w :: w' :: ws => match dnP (s' :: ss) (w' :: ws) with
    | v :: vs => mxg (s' - s) w v :: v :: vs
    | [] => [w]
  | _, ws => ws
def okW (w : List Int) (s : Int) : Bool := !(w.zipIdx.any fun q => decide (min (q.2 : Int) s < q.1))
def okP (ws : List (List Int)) (ss : List Int) : Bool := (ws.zip ss).all fun q => okW q.1 q.2
def stepsP (rows : List (List Int)) (ss : List Int) : List (List Int) := (rows.zip ss).map fun q => stepP q.1 q.2
def wordsP (rows : List (List Int)) (ss : List Int) : List (List Int) := dnP ss (upP (stepsP rows ss))
def tightP (rows : List (List Int)) (ss : List Int) : Option (List (List Int)) := match rows with
  | [] => none
  | r :: _ => if areP ss ((r.length : Int) - 1) && okP (wordsP rows ss) ss then some (wordsP rows ss) else none
theorem upGo_len : ∀ (ws : List (List Int)) (p : List Int), (upGo p ws).length = ws.length
  | [], _ => rfl
  | w :: ws, p => by
    show (upGo _ ws).length + 1 = ws.length + 1
    rw [upGo_len ws]
theorem upP_len : ∀ ws : List (List Int), (upP ws).length = ws.length
  | [] => rfl
  | w :: ws => by
    show (upGo w ws).length + 1 = ws.length + 1
    rw [upGo_len]
theorem dnP_one (s : Int) (w : List Int) : dnP [s] [w] = [w] := by unfold dnP; rfl
theorem dnP_cons : ∀ (s s' : Int) (ss : List Int) (w w' : List Int) (ws : List (List Int)) {v : List Int} {vs : List (List Int)}, dnP (s' :: ss) (w' :: ws) = v :: vs → dnP (s :: s' :: ss) (w :: w' :: ws) = mxg (s' - s) w v :: v :: vs := fun s s' ss w w' ws v vs h => by
  rw [dnP, h]
theorem dnP_ex : ∀ (ss : List Int) (ws : List (List Int)), ws ≠ [] → ∃ v vs, dnP ss ws = v :: vs
  | [], w :: ws, _ => ⟨w, ws, by unfold dnP; rfl⟩
  | [s], w :: ws, _ => ⟨w, ws, by unfold dnP; rfl⟩
  | s :: s' :: ss, [w], _ => ⟨w, [], by unfold dnP; rfl⟩
  | s :: s' :: ss, w :: w' :: ws, _ => by
    obtain ⟨v, vs, h⟩ := dnP_ex (s' :: ss) (w' :: ws) (by simp)
    exact ⟨_, _, dnP_cons _ _ _ _ _ _ h⟩
  | _, [], h => absurd rfl h
def lisD (ws : List (List Int)) : List FK.D := ws.map lisI
theorem lis_app (a b : List (List Int)) : lisD (a ++ b) = lisD a ++ lisD b := List.map_append
theorem lis_cons (a : List Int) (b : List (List Int)) : lisD (a :: b) = lisI a :: lisD b := rfl
theorem lis_len (a : List (List Int)) : (lisD a).length = a.length := List.length_map _
def noneOr (o : Option (List (List Int))) : Val := match o with
  | none => .fz .none
  | some W => .fz (rowsD W)
section
variable {R S : Option Val} {ss : List Int}
theorem tight_up {w0 : List Int} {ws0 : List (List Int)} {Q : Fl → Rho → Prop} (lenW : (w0 :: ws0).length = ss.length)
    (fin : ∀ x5, Q .nx [R, S, some (.ow (lisD (upP (w0 :: ws0)))), none, none, x5, none, none, none, none, none, none]) :
    wp (forL (.nm 5) b1_tightened ((List.range' 1 (ss.length - 1)).map fun (k : Nat) => PyData.int (k : Int))) [R, S, some (.ow (lisD (w0 :: ws0))), none, none, none, none, none, none, none, none, none] Q := by
  refine wp_up2 (fun j ρ => ∃ A p rest x5, A.length + 1 = j ∧ j + rest.length = ss.length ∧ A ++ p :: upGo p rest = upP (w0 :: ws0) ∧
    ρ = [R, S, some (.ow (lisD A ++ lisI p :: lisD rest)), none, none, x5, none, none, none, none, none, none]) (fun j ρ hj1 hj2 h => ?_) (fun ρ h => ?_) ⟨[], w0, ws0, none, rfl, by rw [← lenW, List.length_cons]; omega, rfl, rfl⟩
  · obtain ⟨A, p, rest, x5, e1, e2, e3, rfl⟩ := h
    obtain ⟨w, rest, rfl⟩ : ∃ w ws, rest = w :: ws := List.exists_cons_of_ne_nil (by
      intro e
      rw [e] at e2
      simp only [List.length_nil] at e2
      omega)
    rw [lis_cons]
    have eA : (lisD A).length = A.length := lis_len A
    unfold b1_tightened
    simp -implicitDefEqProofs only [wp_bnd, wp_ret, wp_lift, wpV_some, wpV_none, wpV_ite, wpV_map, wp_stop, wp_ite, wp_mC, wp_mV, wp_mMove, wp_peek, wp_setS, wp_chk, wp_chg', wp_mCall, wp_mCallR, wp_sAug, wp_sAugI, wp_sSeq, wp_mComp, wp_run_nm, wp_run_ex, wp_get_nm, wp_get_ex, wp_mUn, wp_mBin, wp_runs_nil, wp_runs_cons, wp_gets_nil, wp_gets_cons, wp_mFn, wp_it_nil, wp_it_one, wp_it_star, wp_mTup, wp_mLst, wp_mT, wp_mNot, wp_mAnd, wp_mOr, wp_mBl, wp_asT, wp_mAndV, wp_mOrV, wp_mNotB, wp_mIf, wp_mYes, wp_itSeq, wp_itRng, wp_itEnum, wp_itZip, wp_lstRng, wp_tupRng, wp_part_none, wp_part_some, wp_mSl, wp_put_nm, wp_put_tup, wp_putAll_nil, wp_putAll_cons, wp_sNx, wp_sSet, wp_sPut, wp_temps_nil, wp_temps_cons, wp_setAll_nil, wp_setAll_cons, wp_sPar, wp_sDrop, wp_sRet, wp_sIf, wp_sFor, wp_sItem, wp_sApp, wp_sIns, wp_turn1, dat_fz, dat_ow, truth_int, truth_bool, truth_list, truth_tup, asBool_bool, intOf_int, seqOf_list, seqOf_tup, add_int, add_tup, add_list, sub_int, mul_int, mul_tup, mul_list, mod_int, fdiv_int, neg_int, lt_int, le_int, gt_int, ge_int, eq_int, ne_int, is_non, isnot_non, isNon, sl_list, sl_tup, len_list, len_tup, int_int, abs_int, max_2, max_3, min_2, min_3, tuple_list, tuple_tup, list_list, list_tup, app_D, ins_D, oIx_list, oIx_tup, getAt_0, getAt_1, getAt_2, getAt_3, putAt_0, putAt_1, putAt_2, ite_and, if_true, if_false, Bool.false_eq_true, ↓reduceIte, List.getElem?_cons_zero, List.getElem?_cons_succ, List.set_cons_zero, List.set_cons_succ, List.length_cons, List.length_nil, List.length_set, isOw_ow, isOw_fz, isOw_none, Nat.reduceAdd, Nat.reduceLT, Nat.reduceEqDiff, Nat.reduceSub, Int.reduceLT, Int.reduceLE, true_and, and_true, List.map_cons, List.map_nil, List.append_nil, List.nil_append, List.cons_append, List.replicate, wipeR, restore, noOw, List.all_cons, List.all_nil, Bool.not_false, Bool.not_true, Bool.and_true, Bool.and_self, szOk, Nat.reduceLeDiff, Option.getD_some, Option.getD_none, decide_eq_true_eq, Nat.zero_add, out0, List.length_map, getAt_mid (show (j : Int) - 1 = ((lisD A).length : Int) by omega), getAt_mid1 (show (j : Int) = ((lisD A).length : Int) + 1 by omega)]
    refine wp_compZ (ea := PyData.int) (eb := PyData.int) (fun a b => [.int (max a b)]) (fun a b _ => ?_) ?_
    · simp -implicitDefEqProofs only [wp_bnd, wp_ret, wp_lift, wpV_some, wpV_none, wpV_ite, wpV_map, wp_stop, wp_ite, wp_mC, wp_mV, wp_mMove, wp_peek, wp_setS, wp_chk, wp_chg', wp_mCall, wp_mCallR, wp_sAug, wp_sAugI, wp_sSeq, wp_mComp, wp_run_nm, wp_run_ex, wp_get_nm, wp_get_ex, wp_mUn, wp_mBin, wp_runs_nil, wp_runs_cons, wp_gets_nil, wp_gets_cons, wp_mFn, wp_it_nil, wp_it_one, wp_it_star, wp_mTup, wp_mLst, wp_mT, wp_mNot, wp_mAnd, wp_mOr, wp_mBl, wp_asT, wp_mAndV, wp_mOrV, wp_mNotB, wp_mIf, wp_mYes, wp_itSeq, wp_itRng, wp_itEnum, wp_itZip, wp_lstRng, wp_tupRng, wp_part_none, wp_part_some, wp_mSl, wp_put_nm, wp_put_tup, wp_putAll_nil, wp_putAll_cons, wp_sNx, wp_sSet, wp_sPut, wp_temps_nil, wp_temps_cons, wp_setAll_nil, wp_setAll_cons, wp_sPar, wp_sDrop, wp_sRet, wp_sIf, wp_sFor, wp_sItem, wp_sApp, wp_sIns, wp_turn1, dat_fz, dat_ow, truth_int, truth_bool, truth_list, truth_tup, asBool_bool, intOf_int, seqOf_list, seqOf_tup, add_int, add_tup, add_list, sub_int, mul_int, mul_tup, mul_list, mod_int, fdiv_int, neg_int, lt_int, le_int, gt_int, ge_int, eq_int, ne_int, is_non, isnot_non, isNon, sl_list, sl_tup, len_list, len_tup, int_int, abs_int, max_2, max_3, min_2, min_3, tuple_list, tuple_tup, list_list, list_tup, app_D, ins_D, oIx_list, oIx_tup, getAt_0, getAt_1, getAt_2, getAt_3, putAt_0, putAt_1, putAt_2, ite_and, if_true, if_false, Bool.false_eq_true, ↓reduceIte, List.getElem?_cons_zero, List.getElem?_cons_succ, List.set_cons_zero, List.set_cons_succ, List.length_cons, List.length_nil, List.length_set, isOw_ow, isOw_fz, isOw_none, Nat.reduceAdd, Nat.reduceLT, Nat.reduceEqDiff, Nat.reduceSub, Int.reduceLT, Int.reduceLE, true_and, and_true, List.map_cons, List.map_nil, List.append_nil, List.nil_append, List.cons_append, List.replicate, wipeR, restore, noOw, List.all_cons, List.all_nil, Bool.not_false, Bool.not_true, Bool.and_true, Bool.and_self, szOk, Nat.reduceLeDiff, Option.getD_some, Option.getD_none, decide_eq_true_eq, Nat.zero_add, out0, List.length_map]
    · simp -implicitDefEqProofs only [wp_bnd, wp_ret, wp_lift, wpV_some, wpV_none, wpV_ite, wpV_map, wp_stop, wp_ite, wp_mC, wp_mV, wp_mMove, wp_peek, wp_setS, wp_chk, wp_chg', wp_mCall, wp_mCallR, wp_sAug, wp_sAugI, wp_sSeq, wp_mComp, wp_run_nm, wp_run_ex, wp_get_nm, wp_get_ex, wp_mUn, wp_mBin, wp_runs_nil, wp_runs_cons, wp_gets_nil, wp_gets_cons, wp_mFn, wp_it_nil, wp_it_one, wp_it_star, wp_mTup, wp_mLst, wp_mT, wp_mNot, wp_mAnd, wp_mOr, wp_mBl, wp_asT, wp_mAndV, wp_mOrV, wp_mNotB, wp_mIf, wp_mYes, wp_itSeq, wp_itRng, wp_itEnum, wp_itZip, wp_lstRng, wp_tupRng, wp_part_none, wp_part_some, wp_mSl, wp_put_nm, wp_put_tup, wp_putAll_nil, wp_putAll_cons, wp_sNx, wp_sSet, wp_sPut, wp_temps_nil, wp_temps_cons, wp_setAll_nil, wp_setAll_cons, wp_sPar, wp_sDrop, wp_sRet, wp_sIf, wp_sFor, wp_sItem, wp_sApp, wp_sIns, wp_turn1, dat_fz, dat_ow, truth_int, truth_bool, truth_list, truth_tup, asBool_bool, intOf_int, seqOf_list, seqOf_tup, add_int, add_tup, add_list, sub_int, mul_int, mul_tup, mul_list, mod_int, fdiv_int, neg_int, lt_int, le_int, gt_int, ge_int, eq_int, ne_int, is_non, isnot_non, isNon, sl_list, sl_tup, len_list, len_tup, int_int, abs_int, max_2, max_3, min_2, min_3, tuple_list, tuple_tup, list_list, list_tup, app_D, ins_D, oIx_list, oIx_tup, getAt_0, getAt_1, getAt_2, getAt_3, putAt_0, putAt_1, putAt_2, ite_and, if_true, if_false, Bool.false_eq_true, ↓reduceIte, List.getElem?_cons_zero, List.getElem?_cons_succ, List.set_cons_zero, List.set_cons_succ, List.length_cons, List.length_nil, List.length_set, isOw_ow, isOw_fz, isOw_none, Nat.reduceAdd, Nat.reduceLT, Nat.reduceEqDiff, Nat.reduceSub, Int.reduceLT, Int.reduceLE, true_and, and_true, List.map_cons, List.map_nil, List.append_nil, List.nil_append, List.cons_append, List.replicate, wipeR, restore, noOw, List.all_cons, List.all_nil, Bool.not_false, Bool.not_true, Bool.and_true, Bool.and_self, szOk, Nat.reduceLeDiff, Option.getD_some, Option.getD_none, decide_eq_true_eq, Nat.zero_add, out0, List.length_map, flat1i, putAt_mid1 (show (j : Int) = ((lisD A).length : Int) + 1 by omega)]
      refine ⟨A ++ [p], mx p w, rest, some (.fz (.int (j : Int))), by simp only [List.length_append, List.length_cons, List.length_nil]; omega, by simp only [List.length_cons] at e2; omega, by rw [List.append_assoc]; exact e3, ?_⟩
      rw [lis_app, List.append_assoc]
      rfl
  · obtain ⟨A, p, rest, x5, e1, e2, e3, rfl⟩ := h
    have er : rest = [] := List.eq_nil_of_length_eq_zero (by
      rw [List.length_cons] at lenW
      omega)
    subst er
    have := fin x5
    rw [← e3, lis_app] at this
    exact this
theorem tight_down {U : List (List Int)} {x5 : Option Val} {n : Nat} {Q : Fl → Rho → Prop} (lenU : U.length = n + 1) (lenS : ss.length = n + 1)
    (fin : ∀ x5 x8, Q .nx [R, some (.fz (tupI ss)), some (.ow (lisD (dnP ss U))), none, none, x5, none, none, x8, none, none, none]) :
    wp (forL (.nm 5) b2_tightened ((List.range n).reverse.map fun (k : Nat) => PyData.int (k : Int))) [R, some (.fz (tupI ss)), some (.ow (lisD U)), none, none, x5, none, none, none, none, none, none] Q := by
  refine wp_down (fun j ρ => ∃ A' B SA SB v vs x5 x8, A'.length = j ∧ SA.length = j ∧ A' ++ B = U ∧ SA ++ SB = ss ∧ B ≠ [] ∧ SB ≠ [] ∧ dnP SB B = v :: vs ∧
    ρ = [R, some (.fz (tupI ss)), some (.ow (lisD A' ++ lisI v :: lisD vs)), none, none, x5, none, none, x8, none, none, none]) (fun j ρ hj h => ?_) (fun ρ h => ?_) ?_
  · obtain ⟨A1, B, SA, SB, v, vs, x5, x8, l1, l2, e4, e5, hB, hSB, e6, rfl⟩ := h
    obtain ⟨A', w, rfl, l3⟩ := snoc_of l1
    obtain ⟨SA', s, rfl, l4⟩ := snoc_of l2
    obtain ⟨w', B', rfl⟩ := List.exists_cons_of_ne_nil hB
    obtain ⟨s', SB', rfl⟩ := List.exists_cons_of_ne_nil hSB
    have lA : (lisD A').length = j := by rw [lis_len]; exact l3
    have lS : (intsD SA').length = j := by rw [List.length_map]; exact l4
    have eS : intsD ss = intsD SA' ++ PyData.int s :: PyData.int s' :: intsD SB' := by
      rw [← e5, List.append_assoc, ints_app]; rfl
    have eW : lisD (A' ++ [w]) ++ lisI v :: lisD vs = lisD A' ++ lisI w :: lisI v :: lisD vs := by
      rw [lis_app, List.append_assoc]; rfl
    rw [eW]
    unfold b2_tightened
    simp -implicitDefEqProofs only [wp_bnd, wp_ret, wp_lift, wpV_some, wpV_none, wpV_ite, wpV_map, wp_stop, wp_ite, wp_mC, wp_mV, wp_mMove, wp_peek, wp_setS, wp_chk, wp_chg', wp_mCall, wp_mCallR, wp_sAug, wp_sAugI, wp_sSeq, wp_mComp, wp_run_nm, wp_run_ex, wp_get_nm, wp_get_ex, wp_mUn, wp_mBin, wp_runs_nil, wp_runs_cons, wp_gets_nil, wp_gets_cons, wp_mFn, wp_it_nil, wp_it_one, wp_it_star, wp_mTup, wp_mLst, wp_mT, wp_mNot, wp_mAnd, wp_mOr, wp_mBl, wp_asT, wp_mAndV, wp_mOrV, wp_mNotB, wp_mIf, wp_mYes, wp_itSeq, wp_itRng, wp_itEnum, wp_itZip, wp_lstRng, wp_tupRng, wp_part_none, wp_part_some, wp_mSl, wp_put_nm, wp_put_tup, wp_putAll_nil, wp_putAll_cons, wp_sNx, wp_sSet, wp_sPut, wp_temps_nil, wp_temps_cons, wp_setAll_nil, wp_setAll_cons, wp_sPar, wp_sDrop, wp_sRet, wp_sIf, wp_sFor, wp_sItem, wp_sApp, wp_sIns, wp_turn1, dat_fz, dat_ow, truth_int, truth_bool, truth_list, truth_tup, asBool_bool, intOf_int, seqOf_list, seqOf_tup, add_int, add_tup, add_list, sub_int, mul_int, mul_tup, mul_list, mod_int, fdiv_int, neg_int, lt_int, le_int, gt_int, ge_int, eq_int, ne_int, is_non, isnot_non, isNon, sl_list, sl_tup, len_list, len_tup, int_int, abs_int, max_2, max_3, min_2, min_3, tuple_list, tuple_tup, list_list, list_tup, app_D, ins_D, oIx_list, oIx_tup, getAt_0, getAt_1, getAt_2, getAt_3, putAt_0, putAt_1, putAt_2, ite_and, if_true, if_false, Bool.false_eq_true, ↓reduceIte, List.getElem?_cons_zero, List.getElem?_cons_succ, List.set_cons_zero, List.set_cons_succ, List.length_cons, List.length_nil, List.length_set, isOw_ow, isOw_fz, isOw_none, Nat.reduceAdd, Nat.reduceLT, Nat.reduceEqDiff, Nat.reduceSub, Int.reduceLT, Int.reduceLE, true_and, and_true, List.map_cons, List.map_nil, List.append_nil, List.nil_append, List.cons_append, List.replicate, wipeR, restore, noOw, List.all_cons, List.all_nil, Bool.not_false, Bool.not_true, Bool.and_true, Bool.and_self, szOk, Nat.reduceLeDiff, Option.getD_some, Option.getD_none, decide_eq_true_eq, Nat.zero_add, out0, List.length_map, eS, getAt_mid (show (j : Int) = ((intsD SA').length : Int) by omega), getAt_mid1 (show (j : Int) + 1 = ((intsD SA').length : Int) + 1 by omega), getAt_mid (show (j : Int) = ((lisD A').length : Int) by omega), getAt_mid1 (show (j : Int) + 1 = ((lisD A').length : Int) + 1 by omega)]
    refine wp_compZ (ea := PyData.int) (eb := PyData.int) (fun a b => [.int (max a (b - (s' - s)))]) (fun a b _ => ?_) ?_
    · simp -implicitDefEqProofs only [wp_bnd, wp_ret, wp_lift, wpV_some, wpV_none, wpV_ite, wpV_map, wp_stop, wp_ite, wp_mC, wp_mV, wp_mMove, wp_peek, wp_setS, wp_chk, wp_chg', wp_mCall, wp_mCallR, wp_sAug, wp_sAugI, wp_sSeq, wp_mComp, wp_run_nm, wp_run_ex, wp_get_nm, wp_get_ex, wp_mUn, wp_mBin, wp_runs_nil, wp_runs_cons, wp_gets_nil, wp_gets_cons, wp_mFn, wp_it_nil, wp_it_one, wp_it_star, wp_mTup, wp_mLst, wp_mT, wp_mNot, wp_mAnd, wp_mOr, wp_mBl, wp_asT, wp_mAndV, wp_mOrV, wp_mNotB, wp_mIf, wp_mYes, wp_itSeq, wp_itRng, wp_itEnum, wp_itZip, wp_lstRng, wp_tupRng, wp_part_none, wp_part_some, wp_mSl, wp_put_nm, wp_put_tup, wp_putAll_nil, wp_putAll_cons, wp_sNx, wp_sSet, wp_sPut, wp_temps_nil, wp_temps_cons, wp_setAll_nil, wp_setAll_cons, wp_sPar, wp_sDrop, wp_sRet, wp_sIf, wp_sFor, wp_sItem, wp_sApp, wp_sIns, wp_turn1, dat_fz, dat_ow, truth_int, truth_bool, truth_list, truth_tup, asBool_bool, intOf_int, seqOf_list, seqOf_tup, add_int, add_tup, add_list, sub_int, mul_int, mul_tup, mul_list, mod_int, fdiv_int, neg_int, lt_int, le_int, gt_int, ge_int, eq_int, ne_int, is_non, isnot_non, isNon, sl_list, sl_tup, len_list, len_tup, int_int, abs_int, max_2, max_3, min_2, min_3, tuple_list, tuple_tup, list_list, list_tup, app_D, ins_D, oIx_list, oIx_tup, getAt_0, getAt_1, getAt_2, getAt_3, putAt_0, putAt_1, putAt_2, ite_and, if_true, if_false, Bool.false_eq_true, ↓reduceIte, List.getElem?_cons_zero, List.getElem?_cons_succ, List.set_cons_zero, List.set_cons_succ, List.length_cons, List.length_nil, List.length_set, isOw_ow, isOw_fz, isOw_none, Nat.reduceAdd, Nat.reduceLT, Nat.reduceEqDiff, Nat.reduceSub, Int.reduceLT, Int.reduceLE, true_and, and_true, List.map_cons, List.map_nil, List.append_nil, List.nil_append, List.cons_append, List.replicate, wipeR, restore, noOw, List.all_cons, List.all_nil, Bool.not_false, Bool.not_true, Bool.and_true, Bool.and_self, szOk, Nat.reduceLeDiff, Option.getD_some, Option.getD_none, decide_eq_true_eq, Nat.zero_add, out0, List.length_map]
    · simp -implicitDefEqProofs only [wp_bnd, wp_ret, wp_lift, wpV_some, wpV_none, wpV_ite, wpV_map, wp_stop, wp_ite, wp_mC, wp_mV, wp_mMove, wp_peek, wp_setS, wp_chk, wp_chg', wp_mCall, wp_mCallR, wp_sAug, wp_sAugI, wp_sSeq, wp_mComp, wp_run_nm, wp_run_ex, wp_get_nm, wp_get_ex, wp_mUn, wp_mBin, wp_runs_nil, wp_runs_cons, wp_gets_nil, wp_gets_cons, wp_mFn, wp_it_nil, wp_it_one, wp_it_star, wp_mTup, wp_mLst, wp_mT, wp_mNot, wp_mAnd, wp_mOr, wp_mBl, wp_asT, wp_mAndV, wp_mOrV, wp_mNotB, wp_mIf, wp_mYes, wp_itSeq, wp_itRng, wp_itEnum, wp_itZip, wp_lstRng, wp_tupRng, wp_part_none, wp_part_some, wp_mSl, wp_put_nm, wp_put_tup, wp_putAll_nil, wp_putAll_cons, wp_sNx, wp_sSet, wp_sPut, wp_temps_nil, wp_temps_cons, wp_setAll_nil, wp_setAll_cons, wp_sPar, wp_sDrop, wp_sRet, wp_sIf, wp_sFor, wp_sItem, wp_sApp, wp_sIns, wp_turn1, dat_fz, dat_ow, truth_int, truth_bool, truth_list, truth_tup, asBool_bool, intOf_int, seqOf_list, seqOf_tup, add_int, add_tup, add_list, sub_int, mul_int, mul_tup, mul_list, mod_int, fdiv_int, neg_int, lt_int, le_int, gt_int, ge_int, eq_int, ne_int, is_non, isnot_non, isNon, sl_list, sl_tup, len_list, len_tup, int_int, abs_int, max_2, max_3, min_2, min_3, tuple_list, tuple_tup, list_list, list_tup, app_D, ins_D, oIx_list, oIx_tup, getAt_0, getAt_1, getAt_2, getAt_3, putAt_0, putAt_1, putAt_2, ite_and, if_true, if_false, Bool.false_eq_true, ↓reduceIte, List.getElem?_cons_zero, List.getElem?_cons_succ, List.set_cons_zero, List.set_cons_succ, List.length_cons, List.length_nil, List.length_set, isOw_ow, isOw_fz, isOw_none, Nat.reduceAdd, Nat.reduceLT, Nat.reduceEqDiff, Nat.reduceSub, Int.reduceLT, Int.reduceLE, true_and, and_true, List.map_cons, List.map_nil, List.append_nil, List.nil_append, List.cons_append, List.replicate, wipeR, restore, noOw, List.all_cons, List.all_nil, Bool.not_false, Bool.not_true, Bool.and_true, Bool.and_self, szOk, Nat.reduceLeDiff, Option.getD_some, Option.getD_none, decide_eq_true_eq, Nat.zero_add, out0, List.length_map, flat1i, putAt_mid (show (j : Int) = ((lisD A').length : Int) by omega)]
      exact ⟨A', w :: w' :: B', SA', s :: s' :: SB', mxg (s' - s) w v, v :: vs, some (.fz (.int (j : Int))), some (.fz (.int (s' - s))), l3, l4, by rw [← e4, List.append_assoc]; rfl, by rw [← e5, List.append_assoc]; rfl, by simp, by simp, dnP_cons _ _ _ _ _ _ e6, rfl⟩
  · obtain ⟨A1, B, SA, SB, v, vs, x5, x8, l1, l2, e4, e5, hB, hSB, e6, rfl⟩ := h
    have : A1 = [] := List.eq_nil_of_length_eq_zero l1
    subst this
    have : SA = [] := List.eq_nil_of_length_eq_zero l2
    subst this
    have := fin x5 x8
    rw [← e4, List.nil_append, ← e5, List.nil_append, e6] at this
    rw [← e5, List.nil_append]
    exact this
  · obtain ⟨A, w, rfl, lA⟩ := snoc_of lenU
    obtain ⟨SA, s, rfl, lS⟩ := snoc_of lenS
    exact ⟨A, [w], SA, [s], w, [], x5, none, lA, lS, rfl, rfl, by simp, by simp, dnP_one s w, by rw [lis_app]; rfl⟩
theorem tight_check {V : List (List Int)} {x5 x8 : Option Val} {Q : Fl → Rho → Prop}
    (yes : okP V ss = true → ∀ x4 x9, isOw (some x9) = false → Q .nx [R, S, some (.fz (.list (lisD V))), none, x4, x5, none, none, x8, x9, none, none])
    (no : okP V ss = false → ∀ ρ, Q (.rt (.fz .none)) ρ) :
    wp (forL (.tup [(.nm 9), (.nm 4)]) b3_tightened (zipL (lisD V) (intsD ss))) [R, S, some (.fz (.list (lisD V))), none, none, x5, none, none, x8, none, none, none] Q := by
  refine wp_zip (ea := lisI) (eb := PyData.int) (fun xs ys ρ => okP V ss = okP xs ys ∧ ∃ x4 x9, isOw (some x9) = false ∧ ρ = [R, S, some (.fz (.list (lisD V))), none, x4, x5, none, none, x8, x9, none, none]) (fun x xs y ys ρ h => ?_) (fun xs ys ρ hn h => ?_) ⟨rfl, _, _, rfl, rfl⟩
  · obtain ⟨hk, x4, x9, h9, rfl⟩ := h
    unfold b3_tightened
    simp -implicitDefEqProofs only [wp_bnd, wp_ret, wp_lift, wpV_some, wpV_none, wpV_ite, wpV_map, wp_stop, wp_ite, wp_mC, wp_mV, wp_mMove, wp_peek, wp_setS, wp_chk, wp_chg', wp_mCall, wp_mCallR, wp_sAug, wp_sAugI, wp_sSeq, wp_mComp, wp_run_nm, wp_run_ex, wp_get_nm, wp_get_ex, wp_mUn, wp_mBin, wp_runs_nil, wp_runs_cons, wp_gets_nil, wp_gets_cons, wp_mFn, wp_it_nil, wp_it_one, wp_it_star, wp_mTup, wp_mLst, wp_mT, wp_mNot, wp_mAnd, wp_mOr, wp_mBl, wp_asT, wp_mAndV, wp_mOrV, wp_mNotB, wp_mIf, wp_mYes, wp_itSeq, wp_itRng, wp_itEnum, wp_itZip, wp_lstRng, wp_tupRng, wp_part_none, wp_part_some, wp_mSl, wp_put_nm, wp_put_tup, wp_putAll_nil, wp_putAll_cons, wp_sNx, wp_sSet, wp_sPut, wp_temps_nil, wp_temps_cons, wp_setAll_nil, wp_setAll_cons, wp_sPar, wp_sDrop, wp_sRet, wp_sIf, wp_sFor, wp_sItem, wp_sApp, wp_sIns, wp_turn1, dat_fz, dat_ow, truth_int, truth_bool, truth_list, truth_tup, asBool_bool, intOf_int, seqOf_list, seqOf_tup, add_int, add_tup, add_list, sub_int, mul_int, mul_tup, mul_list, mod_int, fdiv_int, neg_int, lt_int, le_int, gt_int, ge_int, eq_int, ne_int, is_non, isnot_non, isNon, sl_list, sl_tup, len_list, len_tup, int_int, abs_int, max_2, max_3, min_2, min_3, tuple_list, tuple_tup, list_list, list_tup, app_D, ins_D, oIx_list, oIx_tup, getAt_0, getAt_1, getAt_2, getAt_3, putAt_0, putAt_1, putAt_2, ite_and, if_true, if_false, Bool.false_eq_true, ↓reduceIte, List.getElem?_cons_zero, List.getElem?_cons_succ, List.set_cons_zero, List.set_cons_succ, List.length_cons, List.length_nil, List.length_set, isOw_ow, isOw_fz, isOw_none, Nat.reduceAdd, Nat.reduceLT, Nat.reduceEqDiff, Nat.reduceSub, Int.reduceLT, Int.reduceLE, true_and, and_true, List.map_cons, List.map_nil, List.append_nil, List.nil_append, List.cons_append, List.replicate, wipeR, restore, noOw, List.all_cons, List.all_nil, Bool.not_false, Bool.not_true, Bool.and_true, Bool.and_self, szOk, Nat.reduceLeDiff, Option.getD_some, Option.getD_none, decide_eq_true_eq, Nat.zero_add, out0, List.length_map]
    refine wp_compE (ea := PyData.int) (fun a k => [.bool (decide (min (k : Int) y < a))]) (fun a k _ => ?_) ?_
    · simp -implicitDefEqProofs only [wp_bnd, wp_ret, wp_lift, wpV_some, wpV_none, wpV_ite, wpV_map, wp_stop, wp_ite, wp_mC, wp_mV, wp_mMove, wp_peek, wp_setS, wp_chk, wp_chg', wp_mCall, wp_mCallR, wp_sAug, wp_sAugI, wp_sSeq, wp_mComp, wp_run_nm, wp_run_ex, wp_get_nm, wp_get_ex, wp_mUn, wp_mBin, wp_runs_nil, wp_runs_cons, wp_gets_nil, wp_gets_cons, wp_mFn, wp_it_nil, wp_it_one, wp_it_star, wp_mTup, wp_mLst, wp_mT, wp_mNot, wp_mAnd, wp_mOr, wp_mBl, wp_asT, wp_mAndV, wp_mOrV, wp_mNotB, wp_mIf, wp_mYes, wp_itSeq, wp_itRng, wp_itEnum, wp_itZip, wp_lstRng, wp_tupRng, wp_part_none, wp_part_some, wp_mSl, wp_put_nm, wp_put_tup, wp_putAll_nil, wp_putAll_cons, wp_sNx, wp_sSet, wp_sPut, wp_temps_nil, wp_temps_cons, wp_setAll_nil, wp_setAll_cons, wp_sPar, wp_sDrop, wp_sRet, wp_sIf, wp_sFor, wp_sItem, wp_sApp, wp_sIns, wp_turn1, dat_fz, dat_ow, truth_int, truth_bool, truth_list, truth_tup, asBool_bool, intOf_int, seqOf_list, seqOf_tup, add_int, add_tup, add_list, sub_int, mul_int, mul_tup, mul_list, mod_int, fdiv_int, neg_int, lt_int, le_int, gt_int, ge_int, eq_int, ne_int, is_non, isnot_non, isNon, sl_list, sl_tup, len_list, len_tup, int_int, abs_int, max_2, max_3, min_2, min_3, tuple_list, tuple_tup, list_list, list_tup, app_D, ins_D, oIx_list, oIx_tup, getAt_0, getAt_1, getAt_2, getAt_3, putAt_0, putAt_1, putAt_2, ite_and, if_true, if_false, Bool.false_eq_true, ↓reduceIte, List.getElem?_cons_zero, List.getElem?_cons_succ, List.set_cons_zero, List.set_cons_succ, List.length_cons, List.length_nil, List.length_set, isOw_ow, isOw_fz, isOw_none, Nat.reduceAdd, Nat.reduceLT, Nat.reduceEqDiff, Nat.reduceSub, Int.reduceLT, Int.reduceLE, true_and, and_true, List.map_cons, List.map_nil, List.append_nil, List.nil_append, List.cons_append, List.replicate, wipeR, restore, noOw, List.all_cons, List.all_nil, Bool.not_false, Bool.not_true, Bool.and_true, Bool.and_self, szOk, Nat.reduceLeDiff, Option.getD_some, Option.getD_none, decide_eq_true_eq, Nat.zero_add, out0, List.length_map]
    · simp -implicitDefEqProofs only [wp_bnd, wp_ret, wp_lift, wpV_some, wpV_none, wpV_ite, wpV_map, wp_stop, wp_ite, wp_mC, wp_mV, wp_mMove, wp_peek, wp_setS, wp_chk, wp_chg', wp_mCall, wp_mCallR, wp_sAug, wp_sAugI, wp_sSeq, wp_mComp, wp_run_nm, wp_run_ex, wp_get_nm, wp_get_ex, wp_mUn, wp_mBin, wp_runs_nil, wp_runs_cons, wp_gets_nil, wp_gets_cons, wp_mFn, wp_it_nil, wp_it_one, wp_it_star, wp_mTup, wp_mLst, wp_mT, wp_mNot, wp_mAnd, wp_mOr, wp_mBl, wp_asT, wp_mAndV, wp_mOrV, wp_mNotB, wp_mIf, wp_mYes, wp_itSeq, wp_itRng, wp_itEnum, wp_itZip, wp_lstRng, wp_tupRng, wp_part_none, wp_part_some, wp_mSl, wp_put_nm, wp_put_tup, wp_putAll_nil, wp_putAll_cons, wp_sNx, wp_sSet, wp_sPut, wp_temps_nil, wp_temps_cons, wp_setAll_nil, wp_setAll_cons, wp_sPar, wp_sDrop, wp_sRet, wp_sIf, wp_sFor, wp_sItem, wp_sApp, wp_sIns, wp_turn1, dat_fz, dat_ow, truth_int, truth_bool, truth_list, truth_tup, asBool_bool, intOf_int, seqOf_list, seqOf_tup, add_int, add_tup, add_list, sub_int, mul_int, mul_tup, mul_list, mod_int, fdiv_int, neg_int, lt_int, le_int, gt_int, ge_int, eq_int, ne_int, is_non, isnot_non, isNon, sl_list, sl_tup, len_list, len_tup, int_int, abs_int, max_2, max_3, min_2, min_3, tuple_list, tuple_tup, list_list, list_tup, app_D, ins_D, oIx_list, oIx_tup, getAt_0, getAt_1, getAt_2, getAt_3, putAt_0, putAt_1, putAt_2, ite_and, if_true, if_false, Bool.false_eq_true, ↓reduceIte, List.getElem?_cons_zero, List.getElem?_cons_succ, List.set_cons_zero, List.set_cons_succ, List.length_cons, List.length_nil, List.length_set, isOw_ow, isOw_fz, isOw_none, Nat.reduceAdd, Nat.reduceLT, Nat.reduceEqDiff, Nat.reduceSub, Int.reduceLT, Int.reduceLE, true_and, and_true, List.map_cons, List.map_nil, List.append_nil, List.nil_append, List.cons_append, List.replicate, wipeR, restore, noOw, List.all_cons, List.all_nil, Bool.not_false, Bool.not_true, Bool.and_true, Bool.and_self, szOk, Nat.reduceLeDiff, Option.getD_some, Option.getD_none, decide_eq_true_eq, Nat.zero_add, out0, List.length_map, flat1, any_map]
      cases hw : okW x y with
      | false =>
        have hz : (x.zipIdx.any fun a => decide (min (a.2 : Int) y < a.1)) = true := by
          have : (!(x.zipIdx.any fun a => decide (min (a.2 : Int) y < a.1))) = false := hw
          simpa using this
        rw [hz, if_pos rfl]
        exact no (by
          rw [hk]
          show (okW x y && okP xs ys) = false
          rw [hw]; rfl) _
      | true =>
        have hz : (x.zipIdx.any fun a => decide (min (a.2 : Int) y < a.1)) = false := by
          have : (!(x.zipIdx.any fun a => decide (min (a.2 : Int) y < a.1))) = true := hw
          simpa using this
        rw [hz]
        simp -implicitDefEqProofs only [wp_bnd, wp_ret, wp_lift, wpV_some, wpV_none, wpV_ite, wpV_map, wp_stop, wp_ite, wp_mC, wp_mV, wp_mMove, wp_peek, wp_setS, wp_chk, wp_chg', wp_mCall, wp_mCallR, wp_sAug, wp_sAugI, wp_sSeq, wp_mComp, wp_run_nm, wp_run_ex, wp_get_nm, wp_get_ex, wp_mUn, wp_mBin, wp_runs_nil, wp_runs_cons, wp_gets_nil, wp_gets_cons, wp_mFn, wp_it_nil, wp_it_one, wp_it_star, wp_mTup, wp_mLst, wp_mT, wp_mNot, wp_mAnd, wp_mOr, wp_mBl, wp_asT, wp_mAndV, wp_mOrV, wp_mNotB, wp_mIf, wp_mYes, wp_itSeq, wp_itRng, wp_itEnum, wp_itZip, wp_lstRng, wp_tupRng, wp_part_none, wp_part_some, wp_mSl, wp_put_nm, wp_put_tup, wp_putAll_nil, wp_putAll_cons, wp_sNx, wp_sSet, wp_sPut, wp_temps_nil, wp_temps_cons, wp_setAll_nil, wp_setAll_cons, wp_sPar, wp_sDrop, wp_sRet, wp_sIf, wp_sFor, wp_sItem, wp_sApp, wp_sIns, wp_turn1, dat_fz, dat_ow, truth_int, truth_bool, truth_list, truth_tup, asBool_bool, intOf_int, seqOf_list, seqOf_tup, add_int, add_tup, add_list, sub_int, mul_int, mul_tup, mul_list, mod_int, fdiv_int, neg_int, lt_int, le_int, gt_int, ge_int, eq_int, ne_int, is_non, isnot_non, isNon, sl_list, sl_tup, len_list, len_tup, int_int, abs_int, max_2, max_3, min_2, min_3, tuple_list, tuple_tup, list_list, list_tup, app_D, ins_D, oIx_list, oIx_tup, getAt_0, getAt_1, getAt_2, getAt_3, putAt_0, putAt_1, putAt_2, ite_and, if_true, if_false, Bool.false_eq_true, ↓reduceIte, List.getElem?_cons_zero, List.getElem?_cons_succ, List.set_cons_zero, List.set_cons_succ, List.length_cons, List.length_nil, List.length_set, isOw_ow, isOw_fz, isOw_none, Nat.reduceAdd, Nat.reduceLT, Nat.reduceEqDiff, Nat.reduceSub, Int.reduceLT, Int.reduceLE, true_and, and_true, List.map_cons, List.map_nil, List.append_nil, List.nil_append, List.cons_append, List.replicate, wipeR, restore, noOw, List.all_cons, List.all_nil, Bool.not_false, Bool.not_true, Bool.and_true, Bool.and_self, szOk, Nat.reduceLeDiff, Option.getD_some, Option.getD_none, decide_eq_true_eq, Nat.zero_add, out0, List.length_map]
        refine ⟨?_, _, _, rfl, rfl⟩
        rw [hk]
        show (okW x y && okP xs ys) = okP xs ys
        rw [hw]; rfl
  · obtain ⟨hk, x4, x9, h9, rfl⟩ := h
    refine yes ?_ _ _ h9
    rw [hk]
    rcases hn with e | e <;> subst e
    · rfl
    · cases xs <;> rfl
end
theorem tightened_ok (rows : List (List Int)) (ss : List Int) (h0 : rows ≠ []) (hl : rows.length = ss.length) (h1 : rows.length ≤ 1000) (h2 : ∀ r ∈ rows, r ≠ [] ∧ r.length ≤ 1000) :
    wpF (e_tightened.f [.fz (rowsD rows), .fz (tupI ss)]) fun v _ => v = noneOr (tightP rows ss) := by
  obtain ⟨r, rs, rfl⟩ := List.exists_cons_of_ne_nil h0
  have hss : ss ≠ [] := by
    intro e
    rw [e] at hl
    cases hl
  obtain ⟨n, hn⟩ : ∃ n, ss.length = n + 1 := ⟨ss.length - 1, by
    have := List.length_pos_iff.mpr hss
    omega⟩
  have hn3 : n ≤ 1000000 := by omega
  have hn4 : ss.length ≤ 1000000 := by omega
  show wpF (fnOf 12 m_tightened _) _
  rw [wpF_fnOf]
  unfold m_tightened
  simp -implicitDefEqProofs only [wp_bnd, wp_ret, wp_lift, wpV_some, wpV_none, wpV_ite, wpV_map, wp_stop, wp_ite, wp_mC, wp_mV, wp_mMove, wp_peek, wp_setS, wp_chk, wp_chg', wp_mCall, wp_mCallR, wp_sAug, wp_sAugI, wp_sSeq, wp_mComp, wp_run_nm, wp_run_ex, wp_get_nm, wp_get_ex, wp_mUn, wp_mBin, wp_runs_nil, wp_runs_cons, wp_gets_nil, wp_gets_cons, wp_mFn, wp_it_nil, wp_it_one, wp_it_star, wp_mTup, wp_mLst, wp_mT, wp_mNot, wp_mAnd, wp_mOr, wp_mBl, wp_asT, wp_mAndV, wp_mOrV, wp_mNotB, wp_mIf, wp_mYes, wp_itSeq, wp_itRng, wp_itEnum, wp_itZip, wp_lstRng, wp_tupRng, wp_part_none, wp_part_some, wp_mSl, wp_put_nm, wp_put_tup, wp_putAll_nil, wp_putAll_cons, wp_sNx, wp_sSet, wp_sPut, wp_temps_nil, wp_temps_cons, wp_setAll_nil, wp_setAll_cons, wp_sPar, wp_sDrop, wp_sRet, wp_sIf, wp_sFor, wp_sItem, wp_sApp, wp_sIns, wp_turn1, dat_fz, dat_ow, truth_int, truth_bool, truth_list, truth_tup, asBool_bool, intOf_int, seqOf_list, seqOf_tup, add_int, add_tup, add_list, sub_int, mul_int, mul_tup, mul_list, mod_int, fdiv_int, neg_int, lt_int, le_int, gt_int, ge_int, eq_int, ne_int, is_non, isnot_non, isNon, sl_list, sl_tup, len_list, len_tup, int_int, abs_int, max_2, max_3, min_2, min_3, tuple_list, tuple_tup, list_list, list_tup, app_D, ins_D, oIx_list, oIx_tup, getAt_0, getAt_1, getAt_2, getAt_3, putAt_0, putAt_1, putAt_2, ite_and, if_true, if_false, Bool.false_eq_true, ↓reduceIte, List.getElem?_cons_zero, List.getElem?_cons_succ, List.set_cons_zero, List.set_cons_succ, List.length_cons, List.length_nil, List.length_set, isOw_ow, isOw_fz, isOw_none, Nat.reduceAdd, Nat.reduceLT, Nat.reduceEqDiff, Nat.reduceSub, Int.reduceLT, Int.reduceLE, true_and, and_true, List.map_cons, List.map_nil, List.append_nil, List.nil_append, List.cons_append, List.replicate, wipeR, restore, noOw, List.all_cons, List.all_nil, Bool.not_false, Bool.not_true, Bool.and_true, Bool.and_self, szOk, Nat.reduceLeDiff, Option.getD_some, Option.getD_none, decide_eq_true_eq, Nat.zero_add, out0, List.length_map]
  refine ⟨rfl, (are_sizes_ok ss ((r.length : Int) - 1) hss (by omega)).mono ?_⟩
  rintro _ _ rfl
  simp -implicitDefEqProofs only [wp_bnd, wp_ret, wp_lift, wpV_some, wpV_none, wpV_ite, wpV_map, wp_stop, wp_ite, wp_mC, wp_mV, wp_mMove, wp_peek, wp_setS, wp_chk, wp_chg', wp_mCall, wp_mCallR, wp_sAug, wp_sAugI, wp_sSeq, wp_mComp, wp_run_nm, wp_run_ex, wp_get_nm, wp_get_ex, wp_mUn, wp_mBin, wp_runs_nil, wp_runs_cons, wp_gets_nil, wp_gets_cons, wp_mFn, wp_it_nil, wp_it_one, wp_it_star, wp_mTup, wp_mLst, wp_mT, wp_mNot, wp_mAnd, wp_mOr, wp_mBl, wp_asT, wp_mAndV, wp_mOrV, wp_mNotB, wp_mIf, wp_mYes, wp_itSeq, wp_itRng, wp_itEnum, wp_itZip, wp_lstRng, wp_tupRng, wp_part_none, wp_part_some, wp_mSl, wp_put_nm, wp_put_tup, wp_putAll_nil, wp_putAll_cons, wp_sNx, wp_sSet, wp_sPut, wp_temps_nil, wp_temps_cons, wp_setAll_nil, wp_setAll_cons, wp_sPar, wp_sDrop, wp_sRet, wp_sIf, wp_sFor, wp_sItem, wp_sApp, wp_sIns, wp_turn1, dat_fz, dat_ow, truth_int, truth_bool, truth_list, truth_tup, asBool_bool, intOf_int, seqOf_list, seqOf_tup, add_int, add_tup, add_list, sub_int, mul_int, mul_tup, mul_list, mod_int, fdiv_int, neg_int, lt_int, le_int, gt_int, ge_int, eq_int, ne_int, is_non, isnot_non, isNon, sl_list, sl_tup, len_list, len_tup, int_int, abs_int, max_2, max_3, min_2, min_3, tuple_list, tuple_tup, list_list, list_tup, app_D, ins_D, oIx_list, oIx_tup, getAt_0, getAt_1, getAt_2, getAt_3, putAt_0, putAt_1, putAt_2, ite_and, if_true, if_false, Bool.false_eq_true, ↓reduceIte, List.getElem?_cons_zero, List.getElem?_cons_succ, List.set_cons_zero, List.set_cons_succ, List.length_cons, List.length_nil, List.length_set, isOw_ow, isOw_fz, isOw_none, Nat.reduceAdd, Nat.reduceLT, Nat.reduceEqDiff, Nat.reduceSub, Int.reduceLT, Int.reduceLE, true_and, and_true, List.map_cons, List.map_nil, List.append_nil, List.nil_append, List.cons_append, List.replicate, wipeR, restore, noOw, List.all_cons, List.all_nil, Bool.not_false, Bool.not_true, Bool.and_true, Bool.and_self, szOk, Nat.reduceLeDiff, Option.getD_some, Option.getD_none, decide_eq_true_eq, Nat.zero_add, out0, List.length_map]
  cases ha : areP ss ((r.length : Int) - 1) with
  | false =>
    simp -implicitDefEqProofs only [wp_bnd, wp_ret, wp_lift, wpV_some, wpV_none, wpV_ite, wpV_map, wp_stop, wp_ite, wp_mC, wp_mV, wp_mMove, wp_peek, wp_setS, wp_chk, wp_chg', wp_mCall, wp_mCallR, wp_sAug, wp_sAugI, wp_sSeq, wp_mComp, wp_run_nm, wp_run_ex, wp_get_nm, wp_get_ex, wp_mUn, wp_mBin, wp_runs_nil, wp_runs_cons, wp_gets_nil, wp_gets_cons, wp_mFn, wp_it_nil, wp_it_one, wp_it_star, wp_mTup, wp_mLst, wp_mT, wp_mNot, wp_mAnd, wp_mOr, wp_mBl, wp_asT, wp_mAndV, wp_mOrV, wp_mNotB, wp_mIf, wp_mYes, wp_itSeq, wp_itRng, wp_itEnum, wp_itZip, wp_lstRng, wp_tupRng, wp_part_none, wp_part_some, wp_mSl, wp_put_nm, wp_put_tup, wp_putAll_nil, wp_putAll_cons, wp_sNx, wp_sSet, wp_sPut, wp_temps_nil, wp_temps_cons, wp_setAll_nil, wp_setAll_cons, wp_sPar, wp_sDrop, wp_sRet, wp_sIf, wp_sFor, wp_sItem, wp_sApp, wp_sIns, wp_turn1, dat_fz, dat_ow, truth_int, truth_bool, truth_list, truth_tup, asBool_bool, intOf_int, seqOf_list, seqOf_tup, add_int, add_tup, add_list, sub_int, mul_int, mul_tup, mul_list, mod_int, fdiv_int, neg_int, lt_int, le_int, gt_int, ge_int, eq_int, ne_int, is_non, isnot_non, isNon, sl_list, sl_tup, len_list, len_tup, int_int, abs_int, max_2, max_3, min_2, min_3, tuple_list, tuple_tup, list_list, list_tup, app_D, ins_D, oIx_list, oIx_tup, getAt_0, getAt_1, getAt_2, getAt_3, putAt_0, putAt_1, putAt_2, ite_and, if_true, if_false, Bool.false_eq_true, ↓reduceIte, List.getElem?_cons_zero, List.getElem?_cons_succ, List.set_cons_zero, List.set_cons_succ, List.length_cons, List.length_nil, List.length_set, isOw_ow, isOw_fz, isOw_none, Nat.reduceAdd, Nat.reduceLT, Nat.reduceEqDiff, Nat.reduceSub, Int.reduceLT, Int.reduceLE, true_and, and_true, List.map_cons, List.map_nil, List.append_nil, List.nil_append, List.cons_append, List.replicate, wipeR, restore, noOw, List.all_cons, List.all_nil, Bool.not_false, Bool.not_true, Bool.and_true, Bool.and_self, szOk, Nat.reduceLeDiff, Option.getD_some, Option.getD_none, decide_eq_true_eq, Nat.zero_add, out0, List.length_map]
    simp only [tightP, ha]
    rfl
  | true =>
    simp -implicitDefEqProofs only [wp_bnd, wp_ret, wp_lift, wpV_some, wpV_none, wpV_ite, wpV_map, wp_stop, wp_ite, wp_mC, wp_mV, wp_mMove, wp_peek, wp_setS, wp_chk, wp_chg', wp_mCall, wp_mCallR, wp_sAug, wp_sAugI, wp_sSeq, wp_mComp, wp_run_nm, wp_run_ex, wp_get_nm, wp_get_ex, wp_mUn, wp_mBin, wp_runs_nil, wp_runs_cons, wp_gets_nil, wp_gets_cons, wp_mFn, wp_it_nil, wp_it_one, wp_it_star, wp_mTup, wp_mLst, wp_mT, wp_mNot, wp_mAnd, wp_mOr, wp_mBl, wp_asT, wp_mAndV, wp_mOrV, wp_mNotB, wp_mIf, wp_mYes, wp_itSeq, wp_itRng, wp_itEnum, wp_itZip, wp_lstRng, wp_tupRng, wp_part_none, wp_part_some, wp_mSl, wp_put_nm, wp_put_tup, wp_putAll_nil, wp_putAll_cons, wp_sNx, wp_sSet, wp_sPut, wp_temps_nil, wp_temps_cons, wp_setAll_nil, wp_setAll_cons, wp_sPar, wp_sDrop, wp_sRet, wp_sIf, wp_sFor, wp_sItem, wp_sApp, wp_sIns, wp_turn1, dat_fz, dat_ow, truth_int, truth_bool, truth_list, truth_tup, asBool_bool, intOf_int, seqOf_list, seqOf_tup, add_int, add_tup, add_list, sub_int, mul_int, mul_tup, mul_list, mod_int, fdiv_int, neg_int, lt_int, le_int, gt_int, ge_int, eq_int, ne_int, is_non, isnot_non, isNon, sl_list, sl_tup, len_list, len_tup, int_int, abs_int, max_2, max_3, min_2, min_3, tuple_list, tuple_tup, list_list, list_tup, app_D, ins_D, oIx_list, oIx_tup, getAt_0, getAt_1, getAt_2, getAt_3, putAt_0, putAt_1, putAt_2, ite_and, if_true, if_false, Bool.false_eq_true, ↓reduceIte, List.getElem?_cons_zero, List.getElem?_cons_succ, List.set_cons_zero, List.set_cons_succ, List.length_cons, List.length_nil, List.length_set, isOw_ow, isOw_fz, isOw_none, Nat.reduceAdd, Nat.reduceLT, Nat.reduceEqDiff, Nat.reduceSub, Int.reduceLT, Int.reduceLE, true_and, and_true, List.map_cons, List.map_nil, List.append_nil, List.nil_append, List.cons_append, List.replicate, wipeR, restore, noOw, List.all_cons, List.all_nil, Bool.not_false, Bool.not_true, Bool.and_true, Bool.and_self, szOk, Nat.reduceLeDiff, Option.getD_some, Option.getD_none, decide_eq_true_eq, Nat.zero_add, out0, List.length_map]
    refine wp_compZ (ea := tupI) (eb := PyData.int) (xs := r :: rs) (ys := ss) (fun row s => [lisI (stepP row s)]) (fun row s hm => ?_) ?_
    · have hr := h2 row (List.of_mem_zip hm).1
      simp -implicitDefEqProofs only [wp_bnd, wp_ret, wp_lift, wpV_some, wpV_none, wpV_ite, wpV_map, wp_stop, wp_ite, wp_mC, wp_mV, wp_mMove, wp_peek, wp_setS, wp_chk, wp_chg', wp_mCall, wp_mCallR, wp_sAug, wp_sAugI, wp_sSeq, wp_mComp, wp_run_nm, wp_run_ex, wp_get_nm, wp_get_ex, wp_mUn, wp_mBin, wp_runs_nil, wp_runs_cons, wp_gets_nil, wp_gets_cons, wp_mFn, wp_it_nil, wp_it_one, wp_it_star, wp_mTup, wp_mLst, wp_mT, wp_mNot, wp_mAnd, wp_mOr, wp_mBl, wp_asT, wp_mAndV, wp_mOrV, wp_mNotB, wp_mIf, wp_mYes, wp_itSeq, wp_itRng, wp_itEnum, wp_itZip, wp_lstRng, wp_tupRng, wp_part_none, wp_part_some, wp_mSl, wp_put_nm, wp_put_tup, wp_putAll_nil, wp_putAll_cons, wp_sNx, wp_sSet, wp_sPut, wp_temps_nil, wp_temps_cons, wp_setAll_nil, wp_setAll_cons, wp_sPar, wp_sDrop, wp_sRet, wp_sIf, wp_sFor, wp_sItem, wp_sApp, wp_sIns, wp_turn1, dat_fz, dat_ow, truth_int, truth_bool, truth_list, truth_tup, asBool_bool, intOf_int, seqOf_list, seqOf_tup, add_int, add_tup, add_list, sub_int, mul_int, mul_tup, mul_list, mod_int, fdiv_int, neg_int, lt_int, le_int, gt_int, ge_int, eq_int, ne_int, is_non, isnot_non, isNon, sl_list, sl_tup, len_list, len_tup, int_int, abs_int, max_2, max_3, min_2, min_3, tuple_list, tuple_tup, list_list, list_tup, app_D, ins_D, oIx_list, oIx_tup, getAt_0, getAt_1, getAt_2, getAt_3, putAt_0, putAt_1, putAt_2, ite_and, if_true, if_false, Bool.false_eq_true, ↓reduceIte, List.getElem?_cons_zero, List.getElem?_cons_succ, List.set_cons_zero, List.set_cons_succ, List.length_cons, List.length_nil, List.length_set, isOw_ow, isOw_fz, isOw_none, Nat.reduceAdd, Nat.reduceLT, Nat.reduceEqDiff, Nat.reduceSub, Int.reduceLT, Int.reduceLE, true_and, and_true, List.map_cons, List.map_nil, List.append_nil, List.nil_append, List.cons_append, List.replicate, wipeR, restore, noOw, List.all_cons, List.all_nil, Bool.not_false, Bool.not_true, Bool.and_true, Bool.and_self, szOk, Nat.reduceLeDiff, Option.getD_some, Option.getD_none, decide_eq_true_eq, Nat.zero_add, out0, List.length_map]
      refine ⟨rfl, (stepped_ok row s hr.1 hr.2).mono ?_⟩
      rintro _ _ rfl
      simp -implicitDefEqProofs only [wp_bnd, wp_ret, wp_lift, wpV_some, wpV_none, wpV_ite, wpV_map, wp_stop, wp_ite, wp_mC, wp_mV, wp_mMove, wp_peek, wp_setS, wp_chk, wp_chg', wp_mCall, wp_mCallR, wp_sAug, wp_sAugI, wp_sSeq, wp_mComp, wp_run_nm, wp_run_ex, wp_get_nm, wp_get_ex, wp_mUn, wp_mBin, wp_runs_nil, wp_runs_cons, wp_gets_nil, wp_gets_cons, wp_mFn, wp_it_nil, wp_it_one, wp_it_star, wp_mTup, wp_mLst, wp_mT, wp_mNot, wp_mAnd, wp_mOr, wp_mBl, wp_asT, wp_mAndV, wp_mOrV, wp_mNotB, wp_mIf, wp_mYes, wp_itSeq, wp_itRng, wp_itEnum, wp_itZip, wp_lstRng, wp_tupRng, wp_part_none, wp_part_some, wp_mSl, wp_put_nm, wp_put_tup, wp_putAll_nil, wp_putAll_cons, wp_sNx, wp_sSet, wp_sPut, wp_temps_nil, wp_temps_cons, wp_setAll_nil, wp_setAll_cons, wp_sPar, wp_sDrop, wp_sRet, wp_sIf, wp_sFor, wp_sItem, wp_sApp, wp_sIns, wp_turn1, dat_fz, dat_ow, truth_int, truth_bool, truth_list, truth_tup, asBool_bool, intOf_int, seqOf_list, seqOf_tup, add_int, add_tup, add_list, sub_int, mul_int, mul_tup, mul_list, mod_int, fdiv_int, neg_int, lt_int, le_int, gt_int, ge_int, eq_int, ne_int, is_non, isnot_non, isNon, sl_list, sl_tup, len_list, len_tup, int_int, abs_int, max_2, max_3, min_2, min_3, tuple_list, tuple_tup, list_list, list_tup, app_D, ins_D, oIx_list, oIx_tup, getAt_0, getAt_1, getAt_2, getAt_3, putAt_0, putAt_1, putAt_2, ite_and, if_true, if_false, Bool.false_eq_true, ↓reduceIte, List.getElem?_cons_zero, List.getElem?_cons_succ, List.set_cons_zero, List.set_cons_succ, List.length_cons, List.length_nil, List.length_set, isOw_ow, isOw_fz, isOw_none, Nat.reduceAdd, Nat.reduceLT, Nat.reduceEqDiff, Nat.reduceSub, Int.reduceLT, Int.reduceLE, true_and, and_true, List.map_cons, List.map_nil, List.append_nil, List.nil_append, List.cons_append, List.replicate, wipeR, restore, noOw, List.all_cons, List.all_nil, Bool.not_false, Bool.not_true, Bool.and_true, Bool.and_self, szOk, Nat.reduceLeDiff, Option.getD_some, Option.getD_none, decide_eq_true_eq, Nat.zero_add, out0, List.length_map]
    · rw [flat1]
      have hW : ((r :: rs).zip ss).map (fun a => lisI (stepP a.1 a.2)) = lisD (stepsP (r :: rs) ss) := by
        show _ = List.map lisI (List.map _ _)
        rw [List.map_map]; rfl
      rw [hW]
      have lenW : (stepsP (r :: rs) ss).length = ss.length := by
        show (List.map _ _).length = _
        rw [List.length_map, List.length_zip, hl]; omega
      generalize hW1 : stepsP (r :: rs) ss = W1 at lenW
      obtain ⟨w0, ws0, rfl⟩ : ∃ w ws, W1 = w :: ws := List.exists_cons_of_ne_nil (by
        intro e
        rw [e] at lenW
        exact hss (List.eq_nil_of_length_eq_zero lenW.symm))
      have lenW' : (lisD (w0 :: ws0)).length = ss.length := by rw [lis_len]; exact lenW
      simp -implicitDefEqProofs only [wp_bnd, wp_ret, wp_lift, wpV_some, wpV_none, wpV_ite, wpV_map, wp_stop, wp_ite, wp_mC, wp_mV, wp_mMove, wp_peek, wp_setS, wp_chk, wp_chg', wp_mCall, wp_mCallR, wp_sAug, wp_sAugI, wp_sSeq, wp_mComp, wp_run_nm, wp_run_ex, wp_get_nm, wp_get_ex, wp_mUn, wp_mBin, wp_runs_nil, wp_runs_cons, wp_gets_nil, wp_gets_cons, wp_mFn, wp_it_nil, wp_it_one, wp_it_star, wp_mTup, wp_mLst, wp_mT, wp_mNot, wp_mAnd, wp_mOr, wp_mBl, wp_asT, wp_mAndV, wp_mOrV, wp_mNotB, wp_mIf, wp_mYes, wp_itSeq, wp_itRng, wp_itEnum, wp_itZip, wp_lstRng, wp_tupRng, wp_part_none, wp_part_some, wp_mSl, wp_put_nm, wp_put_tup, wp_putAll_nil, wp_putAll_cons, wp_sNx, wp_sSet, wp_sPut, wp_temps_nil, wp_temps_cons, wp_setAll_nil, wp_setAll_cons, wp_sPar, wp_sDrop, wp_sRet, wp_sIf, wp_sFor, wp_sItem, wp_sApp, wp_sIns, wp_turn1, dat_fz, dat_ow, truth_int, truth_bool, truth_list, truth_tup, asBool_bool, intOf_int, seqOf_list, seqOf_tup, add_int, add_tup, add_list, sub_int, mul_int, mul_tup, mul_list, mod_int, fdiv_int, neg_int, lt_int, le_int, gt_int, ge_int, eq_int, ne_int, is_non, isnot_non, isNon, sl_list, sl_tup, len_list, len_tup, int_int, abs_int, max_2, max_3, min_2, min_3, tuple_list, tuple_tup, list_list, list_tup, app_D, ins_D, oIx_list, oIx_tup, getAt_0, getAt_1, getAt_2, getAt_3, putAt_0, putAt_1, putAt_2, ite_and, if_true, if_false, Bool.false_eq_true, ↓reduceIte, List.getElem?_cons_zero, List.getElem?_cons_succ, List.set_cons_zero, List.set_cons_succ, List.length_cons, List.length_nil, List.length_set, isOw_ow, isOw_fz, isOw_none, Nat.reduceAdd, Nat.reduceLT, Nat.reduceEqDiff, Nat.reduceSub, Int.reduceLT, Int.reduceLE, true_and, and_true, List.map_cons, List.map_nil, List.append_nil, List.nil_append, List.cons_append, List.replicate, wipeR, restore, noOw, List.all_cons, List.all_nil, Bool.not_false, Bool.not_true, Bool.and_true, Bool.and_self, szOk, Nat.reduceLeDiff, Option.getD_some, Option.getD_none, decide_eq_true_eq, Nat.zero_add, out0, List.length_map, lenW', rng_from1 hn4]
      refine tight_up lenW fun x5 => ?_
      have lenU : (upP (w0 :: ws0)).length = n + 1 := by rw [upP_len, lenW, hn]
      have lD : (lisD (upP (w0 :: ws0))).length = n + 1 := by rw [lis_len, lenU]
      have em : (((n + 1 : Nat) : Int) - 2) = (n : Int) - 1 := by omega
      simp -implicitDefEqProofs only [wp_bnd, wp_ret, wp_lift, wpV_some, wpV_none, wpV_ite, wpV_map, wp_stop, wp_ite, wp_mC, wp_mV, wp_mMove, wp_peek, wp_setS, wp_chk, wp_chg', wp_mCall, wp_mCallR, wp_sAug, wp_sAugI, wp_sSeq, wp_mComp, wp_run_nm, wp_run_ex, wp_get_nm, wp_get_ex, wp_mUn, wp_mBin, wp_runs_nil, wp_runs_cons, wp_gets_nil, wp_gets_cons, wp_mFn, wp_it_nil, wp_it_one, wp_it_star, wp_mTup, wp_mLst, wp_mT, wp_mNot, wp_mAnd, wp_mOr, wp_mBl, wp_asT, wp_mAndV, wp_mOrV, wp_mNotB, wp_mIf, wp_mYes, wp_itSeq, wp_itRng, wp_itEnum, wp_itZip, wp_lstRng, wp_tupRng, wp_part_none, wp_part_some, wp_mSl, wp_put_nm, wp_put_tup, wp_putAll_nil, wp_putAll_cons, wp_sNx, wp_sSet, wp_sPut, wp_temps_nil, wp_temps_cons, wp_setAll_nil, wp_setAll_cons, wp_sPar, wp_sDrop, wp_sRet, wp_sIf, wp_sFor, wp_sItem, wp_sApp, wp_sIns, wp_turn1, dat_fz, dat_ow, truth_int, truth_bool, truth_list, truth_tup, asBool_bool, intOf_int, seqOf_list, seqOf_tup, add_int, add_tup, add_list, sub_int, mul_int, mul_tup, mul_list, mod_int, fdiv_int, neg_int, lt_int, le_int, gt_int, ge_int, eq_int, ne_int, is_non, isnot_non, isNon, sl_list, sl_tup, len_list, len_tup, int_int, abs_int, max_2, max_3, min_2, min_3, tuple_list, tuple_tup, list_list, list_tup, app_D, ins_D, oIx_list, oIx_tup, getAt_0, getAt_1, getAt_2, getAt_3, putAt_0, putAt_1, putAt_2, ite_and, if_true, if_false, Bool.false_eq_true, ↓reduceIte, List.getElem?_cons_zero, List.getElem?_cons_succ, List.set_cons_zero, List.set_cons_succ, List.length_cons, List.length_nil, List.length_set, isOw_ow, isOw_fz, isOw_none, Nat.reduceAdd, Nat.reduceLT, Nat.reduceEqDiff, Nat.reduceSub, Int.reduceLT, Int.reduceLE, true_and, and_true, List.map_cons, List.map_nil, List.append_nil, List.nil_append, List.cons_append, List.replicate, wipeR, restore, noOw, List.all_cons, List.all_nil, Bool.not_false, Bool.not_true, Bool.and_true, Bool.and_self, szOk, Nat.reduceLeDiff, Option.getD_some, Option.getD_none, decide_eq_true_eq, Nat.zero_add, out0, List.length_map, lD, em, rngOf3 hn3]
      refine tight_down lenU hn fun x5 x8 => ?_
      have e7 : wordsP (r :: rs) ss = dnP ss (upP (w0 :: ws0)) := by
        show dnP ss (upP (stepsP (r :: rs) ss)) = _
        rw [hW1]
      rw [← e7]
      have et : tightP (r :: rs) ss = if okP (wordsP (r :: rs) ss) ss = true then some (wordsP (r :: rs) ss) else none := by
        show (if areP ss ((r.length : Int) - 1) && okP (wordsP (r :: rs) ss) ss then some (wordsP (r :: rs) ss) else none) = _
        rw [ha, Bool.true_and]
      simp -implicitDefEqProofs only [wp_bnd, wp_ret, wp_lift, wpV_some, wpV_none, wpV_ite, wpV_map, wp_stop, wp_ite, wp_mC, wp_mV, wp_mMove, wp_peek, wp_setS, wp_chk, wp_chg', wp_mCall, wp_mCallR, wp_sAug, wp_sAugI, wp_sSeq, wp_mComp, wp_run_nm, wp_run_ex, wp_get_nm, wp_get_ex, wp_mUn, wp_mBin, wp_runs_nil, wp_runs_cons, wp_gets_nil, wp_gets_cons, wp_mFn, wp_it_nil, wp_it_one, wp_it_star, wp_mTup, wp_mLst, wp_mT, wp_mNot, wp_mAnd, wp_mOr, wp_mBl, wp_asT, wp_mAndV, wp_mOrV, wp_mNotB, wp_mIf, wp_mYes, wp_itSeq, wp_itRng, wp_itEnum, wp_itZip, wp_lstRng, wp_tupRng, wp_part_none, wp_part_some, wp_mSl, wp_put_nm, wp_put_tup, wp_putAll_nil, wp_putAll_cons, wp_sNx, wp_sSet, wp_sPut, wp_temps_nil, wp_temps_cons, wp_setAll_nil, wp_setAll_cons, wp_sPar, wp_sDrop, wp_sRet, wp_sIf, wp_sFor, wp_sItem, wp_sApp, wp_sIns, wp_turn1, dat_fz, dat_ow, truth_int, truth_bool, truth_list, truth_tup, asBool_bool, intOf_int, seqOf_list, seqOf_tup, add_int, add_tup, add_list, sub_int, mul_int, mul_tup, mul_list, mod_int, fdiv_int, neg_int, lt_int, le_int, gt_int, ge_int, eq_int, ne_int, is_non, isnot_non, isNon, sl_list, sl_tup, len_list, len_tup, int_int, abs_int, max_2, max_3, min_2, min_3, tuple_list, tuple_tup, list_list, list_tup, app_D, ins_D, oIx_list, oIx_tup, getAt_0, getAt_1, getAt_2, getAt_3, putAt_0, putAt_1, putAt_2, ite_and, if_true, if_false, Bool.false_eq_true, ↓reduceIte, List.getElem?_cons_zero, List.getElem?_cons_succ, List.set_cons_zero, List.set_cons_succ, List.length_cons, List.length_nil, List.length_set, isOw_ow, isOw_fz, isOw_none, Nat.reduceAdd, Nat.reduceLT, Nat.reduceEqDiff, Nat.reduceSub, Int.reduceLT, Int.reduceLE, true_and, and_true, List.map_cons, List.map_nil, List.append_nil, List.nil_append, List.cons_append, List.replicate, wipeR, restore, noOw, List.all_cons, List.all_nil, Bool.not_false, Bool.not_true, Bool.and_true, Bool.and_self, szOk, Nat.reduceLeDiff, Option.getD_some, Option.getD_none, decide_eq_true_eq, Nat.zero_add, out0, List.length_map]
      refine tight_check (fun hk x4 x9 h9 => ?_) fun hk ρ => ?_
      · simp -implicitDefEqProofs only [wp_bnd, wp_ret, wp_lift, wpV_some, wpV_none, wpV_ite, wpV_map, wp_stop, wp_ite, wp_mC, wp_mV, wp_mMove, wp_peek, wp_setS, wp_chk, wp_chg', wp_mCall, wp_mCallR, wp_sAug, wp_sAugI, wp_sSeq, wp_mComp, wp_run_nm, wp_run_ex, wp_get_nm, wp_get_ex, wp_mUn, wp_mBin, wp_runs_nil, wp_runs_cons, wp_gets_nil, wp_gets_cons, wp_mFn, wp_it_nil, wp_it_one, wp_it_star, wp_mTup, wp_mLst, wp_mT, wp_mNot, wp_mAnd, wp_mOr, wp_mBl, wp_asT, wp_mAndV, wp_mOrV, wp_mNotB, wp_mIf, wp_mYes, wp_itSeq, wp_itRng, wp_itEnum, wp_itZip, wp_lstRng, wp_tupRng, wp_part_none, wp_part_some, wp_mSl, wp_put_nm, wp_put_tup, wp_putAll_nil, wp_putAll_cons, wp_sNx, wp_sSet, wp_sPut, wp_temps_nil, wp_temps_cons, wp_setAll_nil, wp_setAll_cons, wp_sPar, wp_sDrop, wp_sRet, wp_sIf, wp_sFor, wp_sItem, wp_sApp, wp_sIns, wp_turn1, dat_fz, dat_ow, truth_int, truth_bool, truth_list, truth_tup, asBool_bool, intOf_int, seqOf_list, seqOf_tup, add_int, add_tup, add_list, sub_int, mul_int, mul_tup, mul_list, mod_int, fdiv_int, neg_int, lt_int, le_int, gt_int, ge_int, eq_int, ne_int, is_non, isnot_non, isNon, sl_list, sl_tup, len_list, len_tup, int_int, abs_int, max_2, max_3, min_2, min_3, tuple_list, tuple_tup, list_list, list_tup, app_D, ins_D, oIx_list, oIx_tup, getAt_0, getAt_1, getAt_2, getAt_3, putAt_0, putAt_1, putAt_2, ite_and, if_true, if_false, Bool.false_eq_true, ↓reduceIte, List.getElem?_cons_zero, List.getElem?_cons_succ, List.set_cons_zero, List.set_cons_succ, List.length_cons, List.length_nil, List.length_set, isOw_ow, isOw_fz, isOw_none, Nat.reduceAdd, Nat.reduceLT, Nat.reduceEqDiff, Nat.reduceSub, Int.reduceLT, Int.reduceLE, true_and, and_true, List.map_cons, List.map_nil, List.append_nil, List.nil_append, List.cons_append, List.replicate, wipeR, restore, noOw, List.all_cons, List.all_nil, Bool.not_false, Bool.not_true, Bool.and_true, Bool.and_self, szOk, Nat.reduceLeDiff, Option.getD_some, Option.getD_none, decide_eq_true_eq, Nat.zero_add, out0, List.length_map, h9, lisD]
        refine wp_compP (enc := lisI) (g := fun w => [tupI w]) (fun w _ => ?_) ?_
        · simp -implicitDefEqProofs only [wp_bnd, wp_ret, wp_lift, wpV_some, wpV_none, wpV_ite, wpV_map, wp_stop, wp_ite, wp_mC, wp_mV, wp_mMove, wp_peek, wp_setS, wp_chk, wp_chg', wp_mCall, wp_mCallR, wp_sAug, wp_sAugI, wp_sSeq, wp_mComp, wp_run_nm, wp_run_ex, wp_get_nm, wp_get_ex, wp_mUn, wp_mBin, wp_runs_nil, wp_runs_cons, wp_gets_nil, wp_gets_cons, wp_mFn, wp_it_nil, wp_it_one, wp_it_star, wp_mTup, wp_mLst, wp_mT, wp_mNot, wp_mAnd, wp_mOr, wp_mBl, wp_asT, wp_mAndV, wp_mOrV, wp_mNotB, wp_mIf, wp_mYes, wp_itSeq, wp_itRng, wp_itEnum, wp_itZip, wp_lstRng, wp_tupRng, wp_part_none, wp_part_some, wp_mSl, wp_put_nm, wp_put_tup, wp_putAll_nil, wp_putAll_cons, wp_sNx, wp_sSet, wp_sPut, wp_temps_nil, wp_temps_cons, wp_setAll_nil, wp_setAll_cons, wp_sPar, wp_sDrop, wp_sRet, wp_sIf, wp_sFor, wp_sItem, wp_sApp, wp_sIns, wp_turn1, dat_fz, dat_ow, truth_int, truth_bool, truth_list, truth_tup, asBool_bool, intOf_int, seqOf_list, seqOf_tup, add_int, add_tup, add_list, sub_int, mul_int, mul_tup, mul_list, mod_int, fdiv_int, neg_int, lt_int, le_int, gt_int, ge_int, eq_int, ne_int, is_non, isnot_non, isNon, sl_list, sl_tup, len_list, len_tup, int_int, abs_int, max_2, max_3, min_2, min_3, tuple_list, tuple_tup, list_list, list_tup, app_D, ins_D, oIx_list, oIx_tup, getAt_0, getAt_1, getAt_2, getAt_3, putAt_0, putAt_1, putAt_2, ite_and, if_true, if_false, Bool.false_eq_true, ↓reduceIte, List.getElem?_cons_zero, List.getElem?_cons_succ, List.set_cons_zero, List.set_cons_succ, List.length_cons, List.length_nil, List.length_set, isOw_ow, isOw_fz, isOw_none, Nat.reduceAdd, Nat.reduceLT, Nat.reduceEqDiff, Nat.reduceSub, Int.reduceLT, Int.reduceLE, true_and, and_true, List.map_cons, List.map_nil, List.append_nil, List.nil_append, List.cons_append, List.replicate, wipeR, restore, noOw, List.all_cons, List.all_nil, Bool.not_false, Bool.not_true, Bool.and_true, Bool.and_self, szOk, Nat.reduceLeDiff, Option.getD_some, Option.getD_none, decide_eq_true_eq, Nat.zero_add, out0, List.length_map]
        · simp -implicitDefEqProofs only [wp_bnd, wp_ret, wp_lift, wpV_some, wpV_none, wpV_ite, wpV_map, wp_stop, wp_ite, wp_mC, wp_mV, wp_mMove, wp_peek, wp_setS, wp_chk, wp_chg', wp_mCall, wp_mCallR, wp_sAug, wp_sAugI, wp_sSeq, wp_mComp, wp_run_nm, wp_run_ex, wp_get_nm, wp_get_ex, wp_mUn, wp_mBin, wp_runs_nil, wp_runs_cons, wp_gets_nil, wp_gets_cons, wp_mFn, wp_it_nil, wp_it_one, wp_it_star, wp_mTup, wp_mLst, wp_mT, wp_mNot, wp_mAnd, wp_mOr, wp_mBl, wp_asT, wp_mAndV, wp_mOrV, wp_mNotB, wp_mIf, wp_mYes, wp_itSeq, wp_itRng, wp_itEnum, wp_itZip, wp_lstRng, wp_tupRng, wp_part_none, wp_part_some, wp_mSl, wp_put_nm, wp_put_tup, wp_putAll_nil, wp_putAll_cons, wp_sNx, wp_sSet, wp_sPut, wp_temps_nil, wp_temps_cons, wp_setAll_nil, wp_setAll_cons, wp_sPar, wp_sDrop, wp_sRet, wp_sIf, wp_sFor, wp_sItem, wp_sApp, wp_sIns, wp_turn1, dat_fz, dat_ow, truth_int, truth_bool, truth_list, truth_tup, asBool_bool, intOf_int, seqOf_list, seqOf_tup, add_int, add_tup, add_list, sub_int, mul_int, mul_tup, mul_list, mod_int, fdiv_int, neg_int, lt_int, le_int, gt_int, ge_int, eq_int, ne_int, is_non, isnot_non, isNon, sl_list, sl_tup, len_list, len_tup, int_int, abs_int, max_2, max_3, min_2, min_3, tuple_list, tuple_tup, list_list, list_tup, app_D, ins_D, oIx_list, oIx_tup, getAt_0, getAt_1, getAt_2, getAt_3, putAt_0, putAt_1, putAt_2, ite_and, if_true, if_false, Bool.false_eq_true, ↓reduceIte, List.getElem?_cons_zero, List.getElem?_cons_succ, List.set_cons_zero, List.set_cons_succ, List.length_cons, List.length_nil, List.length_set, isOw_ow, isOw_fz, isOw_none, Nat.reduceAdd, Nat.reduceLT, Nat.reduceEqDiff, Nat.reduceSub, Int.reduceLT, Int.reduceLE, true_and, and_true, List.map_cons, List.map_nil, List.append_nil, List.nil_append, List.cons_append, List.replicate, wipeR, restore, noOw, List.all_cons, List.all_nil, Bool.not_false, Bool.not_true, Bool.and_true, Bool.and_self, szOk, Nat.reduceLeDiff, Option.getD_some, Option.getD_none, decide_eq_true_eq, Nat.zero_add, out0, List.length_map, flat1]
          rw [et, hk]
          rfl
      · show Val.fz .none = noneOr (tightP (r :: rs) ss)
        rw [et, hk]
        rfl
end FW

/-! FwC: the least tight words, in plain lists. -/
namespace FW
open PySem FK
def le2 : List Int → List Int → Prop
  | [], [] => True
  | x :: xs, y :: ys => x ≤ y ∧ le2 xs ys
  | _, _ => False
def leg (g : Int) : List Int → List Int → Prop
  | [], [] => True
  | x :: xs, y :: ys => x - g ≤ y ∧ leg g xs ys
  | _, _ => False
def mono : List Int → Prop
  | x :: y :: r => x ≤ y ∧ mono (y :: r)
  | _ => True
def lip : List Int → Prop
  | x :: y :: r => y ≤ x + 1 ∧ lip (y :: r)
  | _ => True
def low (c : Int) : List Int → Prop
  | [] => True
  | x :: xs => c ≤ x ∧ low (c + 1) xs
def nn (a : Int) : List Int → Prop
  | [] => True
  | x :: xs => a ≤ x ∧ nn a xs
theorem le2_refl : ∀ xs, le2 xs xs
  | [] => trivial
  | x :: xs => ⟨Int.le_refl x, le2_refl xs⟩
theorem le2_trans : ∀ {xs ys zs}, le2 xs ys → le2 ys zs → le2 xs zs
  | [], [], [], _, _ => trivial
  | x :: xs, y :: ys, z :: zs, h, g => ⟨Int.le_trans h.1 g.1, le2_trans h.2 g.2⟩
  | [], [], _ :: _, _, g => g.elim
  | [], _ :: _, _, h, _ => h.elim
  | _ :: _, [], _, h, _ => h.elim
  | _ :: _, _ :: _, [], _, g => g.elim
theorem le2_len : ∀ {xs ys}, le2 xs ys → xs.length = ys.length
  | [], [], _ => rfl
  | x :: xs, y :: ys, h => by rw [List.length_cons, List.length_cons, le2_len h.2]
  | [], _ :: _, h => h.elim
  | _ :: _, [], h => h.elim
theorem le2_anti : ∀ {xs ys}, le2 xs ys → le2 ys xs → xs = ys
  | [], [], _, _ => rfl
  | x :: xs, y :: ys, h, g => by rw [le2_anti h.2 g.2, Int.le_antisymm h.1 g.1]
  | [], _ :: _, h, _ => h.elim
  | _ :: _, [], h, _ => h.elim
theorem low_le2 : ∀ {xs ys} {c : Int}, low c xs → le2 xs ys → low c ys
  | [], [], _, _, _ => trivial
  | x :: xs, y :: ys, c, h, g => ⟨Int.le_trans h.1 g.1, low_le2 h.2 g.2⟩
  | [], _ :: _, _, _, h => h.elim
  | _ :: _, [], _, _, h => h.elim
theorem nn_le2 : ∀ {xs ys} {c : Int}, nn c xs → le2 xs ys → nn c ys
  | [], [], _, _, _ => trivial
  | x :: xs, y :: ys, c, h, g => ⟨Int.le_trans h.1 g.1, nn_le2 h.2 g.2⟩
  | [], _ :: _, _, _, h => h.elim
  | _ :: _, [], _, _, h => h.elim
theorem nn_weak : ∀ {xs} {a b : Int}, b ≤ a → nn a xs → nn b xs
  | [], _, _, _, _ => trivial
  | x :: xs, a, b, h, g => ⟨Int.le_trans h g.1, nn_weak h g.2⟩
theorem mono_nn : ∀ {x : Int} {xs}, mono (x :: xs) → nn x xs
  | _, [], _ => trivial
  | x, y :: ys, h => ⟨h.1, nn_weak h.1 (mono_nn h.2)⟩
/-! ### the running most -/
section
variable {m s : Int}
theorem st1_nn : ∀ (xs : List Int) (acc : Int) (p : Nat), nn acc (st1 m s acc p xs)
  | [], _, _ => trivial
  | x :: xs, acc, p => ⟨by omega, nn_weak (by omega) (st1_nn xs _ (p + 1))⟩
theorem st1_mono : ∀ (xs : List Int) (acc : Int) (p : Nat), mono (st1 m s acc p xs)
  | [], _, _ => trivial
  | [x], _, _ => trivial
  | x :: y :: xs, acc, p => ⟨by omega, st1_mono (y :: xs) _ (p + 1)⟩
theorem st1_ge : ∀ (xs : List Int) (acc : Int) (p : Nat), le2 xs (st1 m s acc p xs)
  | [], _, _ => trivial
  | x :: xs, acc, p => ⟨by omega, st1_ge xs _ (p + 1)⟩
theorem st1_low : ∀ (xs : List Int) (acc : Int) (p : Nat) (c : Int), c = s - m + (p : Int) → low c (st1 m s acc p xs)
  | [], _, _, _, _ => trivial
  | x :: xs, acc, p, c, e => ⟨by omega, st1_low xs _ (p + 1) (c + 1) (by push_cast; omega)⟩
theorem st1_least : ∀ (xs us : List Int) (acc : Int) (p : Nat) (c : Int), c = s - m + (p : Int) → mono us → nn acc us → le2 xs us → low c us → le2 (st1 m s acc p xs) us
  | [], [], _, _, _, _, _, _, _, _ => trivial
  | x :: xs, u :: us, acc, p, c, e, h1, h2, h3, h4 => by
    have ha : max (max acc x) (s - m + (p : Int)) ≤ u := by
      have := h2.1; have := h3.1; have := h4.1
      omega
    refine ⟨ha, st1_least xs us _ (p + 1) (c + 1) (by push_cast; omega) ?_ (nn_weak ha (mono_nn h1)) h3.2 h4.2⟩
    cases us with
    | nil => trivial
    | cons v us => exact h1.2
  | [], _ :: _, _, _, _, _, _, _, h, _ => h.elim
  | _ :: _, [], _, _, _, _, _, _, h, _ => h.elim
end
/-! ### backwards -/
theorem back_ge : ∀ xs, le2 xs (back xs)
  | [] => trivial
  | [x] => ⟨Int.le_refl x, trivial⟩
  | x :: y :: xs => by
    obtain ⟨z, zs, h⟩ := back_cons y xs
    have ih := back_ge (y :: xs)
    rw [back_two h]
    rw [h] at ih
    exact ⟨by omega, ih⟩
theorem back_lip : ∀ xs, lip (back xs)
  | [] => trivial
  | [x] => trivial
  | x :: y :: xs => by
    obtain ⟨z, zs, h⟩ := back_cons y xs
    have ih := back_lip (y :: xs)
    rw [back_two h]
    rw [h] at ih
    exact ⟨by omega, ih⟩
theorem back_mono : ∀ xs, mono xs → mono (back xs)
  | [], _ => trivial
  | [x], _ => trivial
  | x :: y :: xs, h => by
    obtain ⟨z, zs, e⟩ := back_cons y xs
    have ih := back_mono (y :: xs) h.2
    have ge := back_ge (y :: xs)
    rw [back_two e]
    rw [e] at ih ge
    have h1 := h.1
    have h2 := ge.1
    exact ⟨by omega, ih⟩
theorem back_least : ∀ xs us, lip us → le2 xs us → le2 (back xs) us
  | [], [], _, _ => trivial
  | [x], [u], _, h => h
  | x :: y :: xs, u :: v :: us, h, g => by
    obtain ⟨z, zs, e⟩ := back_cons y xs
    have ih := back_least (y :: xs) (v :: us) h.2 g.2
    rw [back_two e]
    rw [e] at ih
    have h1 := h.1
    have h2 := g.1
    have h3 := ih.1
    exact ⟨by omega, ih⟩
  | [], _ :: _, _, h => h.elim
  | [x], [], _, h => h.elim
  | [x], _ :: _ :: _, _, h => h.2.elim
  | x :: y :: xs, [], _, h => h.elim
  | x :: y :: xs, [_], _, h => h.2.elim
/-! ### a good word -/
structure Gd (c : Int) (w : List Int) : Prop where
  mo : mono w
  li : lip w
  no : nn 0 w
  lo : low c w
theorem stepP_len (row : List Int) (s : Int) : (stepP row s).length = row.length := by
  unfold stepP
  rw [back_len, st1_len]
theorem stepP_ge (row : List Int) (s : Int) : le2 row (stepP row s) := le2_trans (st1_ge _ _ _) (back_ge _)
theorem stepP_gd (row : List Int) (s : Int) : Gd (s - ((row.length : Int) - 1)) (stepP row s) :=
  ⟨back_mono _ (st1_mono _ _ _), back_lip _, nn_le2 (st1_nn _ _ _) (back_ge _), low_le2 (st1_low _ _ _ _ (by simp)) (back_ge _)⟩
theorem stepP_least {row us : List Int} {s : Int} (h : Gd (s - ((row.length : Int) - 1)) us) (g : le2 row us) : le2 (stepP row s) us :=
  back_least _ _ h.li (st1_least _ _ _ _ _ (by simp) h.mo h.no g h.lo)
theorem stepP_fix {row : List Int} {s : Int} (h : Gd (s - ((row.length : Int) - 1)) row) : stepP row s = row := le2_anti (stepP_least h (le2_refl row)) (stepP_ge row s)
/-! ### the more of two -/
theorem mx_cons (x y : Int) (xs ys : List Int) : mx (x :: xs) (y :: ys) = max x y :: mx xs ys := rfl
theorem mxg_cons (g x y : Int) (xs ys : List Int) : mxg g (x :: xs) (y :: ys) = max x (y - g) :: mxg g xs ys := rfl
theorem mx_ge1 : ∀ {a b : List Int}, a.length = b.length → le2 a (mx a b)
  | [], [], _ => trivial
  | x :: xs, y :: ys, h => ⟨by (dsimp only; omega), mx_ge1 (Nat.succ.inj h)⟩
theorem mx_ge2 : ∀ {a b : List Int}, a.length = b.length → le2 b (mx a b)
  | [], [], _ => trivial
  | x :: xs, y :: ys, h => ⟨by (dsimp only; omega), mx_ge2 (Nat.succ.inj h)⟩
theorem mx_le : ∀ {a b u : List Int}, le2 a u → le2 b u → le2 (mx a b) u
  | [], [], [], _, _ => trivial
  | x :: xs, y :: ys, u :: us, h, g => ⟨by have := h.1; have := g.1; (dsimp only; omega), mx_le h.2 g.2⟩
  | [], [], _ :: _, h, _ => h.elim
  | [], _ :: _, [], _, g => g.elim
  | [], _ :: _, _ :: _, h, _ => h.elim
  | _ :: _, [], [], h, _ => h.elim
  | _ :: _, [], _ :: _, _, g => g.elim
  | _ :: _, _ :: _, [], h, _ => h.elim
theorem mx_len {a b : List Int} (h : a.length = b.length) : (mx a b).length = b.length := (le2_len (mx_ge2 h)).symm
theorem mx_mono : ∀ {a b : List Int}, mono a → mono b → mono (mx a b)
  | [], _, _, _ => trivial
  | _ :: _, [], _, _ => trivial
  | [_], _ :: _, _, _ => trivial
  | _ :: _ :: _, [_], _, _ => trivial
  | x :: x' :: xs, y :: y' :: ys, h, g => ⟨by have := h.1; have := g.1; (dsimp only; omega), mx_mono h.2 g.2⟩
theorem mx_lip : ∀ {a b : List Int}, lip a → lip b → lip (mx a b)
  | [], _, _, _ => trivial
  | _ :: _, [], _, _ => trivial
  | [_], _ :: _, _, _ => trivial
  | _ :: _ :: _, [_], _, _ => trivial
  | x :: x' :: xs, y :: y' :: ys, h, g => ⟨by have := h.1; have := g.1; (dsimp only; omega), mx_lip h.2 g.2⟩
theorem mx_gd {a b : List Int} {c c' : Int} (h : Gd c a) (g : Gd c' b) (e : a.length = b.length) : Gd c' (mx a b) :=
  ⟨mx_mono h.mo g.mo, mx_lip h.li g.li, nn_le2 h.no (mx_ge1 e), low_le2 g.lo (mx_ge2 e)⟩
theorem mxg_ge : ∀ {g : Int} {a b : List Int}, a.length = b.length → le2 a (mxg g a b)
  | _, [], [], _ => trivial
  | g, x :: xs, y :: ys, h => ⟨by (dsimp only; omega), mxg_ge (Nat.succ.inj h)⟩
theorem mxg_leg : ∀ {g : Int} {a b : List Int}, a.length = b.length → leg g b (mxg g a b)
  | _, [], [], _ => trivial
  | g, x :: xs, y :: ys, h => ⟨by (dsimp only; omega), mxg_leg (Nat.succ.inj h)⟩
theorem mxg_le : ∀ {g : Int} {a b u : List Int}, le2 a u → leg g b u → le2 (mxg g a b) u
  | _, [], [], [], _, _ => trivial
  | g, x :: xs, y :: ys, u :: us, h, k => ⟨by have := h.1; have := k.1; (dsimp only; omega), mxg_le h.2 k.2⟩
  | _, [], [], _ :: _, h, _ => h.elim
  | _, [], _ :: _, [], _, g => g.elim
  | _, [], _ :: _, _ :: _, h, _ => h.elim
  | _, _ :: _, [], [], h, _ => h.elim
  | _, _ :: _, [], _ :: _, _, g => g.elim
  | _, _ :: _, _ :: _, [], h, _ => h.elim
theorem leg_of_le2 : ∀ {g : Int} {a b : List Int}, 0 ≤ g → le2 a b → leg g a b
  | _, [], [], _, _ => trivial
  | g, x :: xs, y :: ys, h, k => ⟨by have := k.1; omega, leg_of_le2 h k.2⟩
  | _, [], _ :: _, _, h => h.elim
  | _, _ :: _, [], _, h => h.elim
theorem mxg_len {g : Int} {a b : List Int} (h : a.length = b.length) : (mxg g a b).length = a.length := (le2_len (mxg_ge h)).symm
theorem mxg_mono : ∀ {g : Int} {a b : List Int}, mono a → mono b → mono (mxg g a b)
  | _, [], _, _, _ => trivial
  | _, _ :: _, [], _, _ => trivial
  | _, [_], _ :: _, _, _ => trivial
  | _, _ :: _ :: _, [_], _, _ => trivial
  | g, x :: x' :: xs, y :: y' :: ys, h, k => ⟨by have := h.1; have := k.1; (dsimp only; omega), mxg_mono h.2 k.2⟩
theorem mxg_lip : ∀ {g : Int} {a b : List Int}, lip a → lip b → lip (mxg g a b)
  | _, [], _, _, _ => trivial
  | _, _ :: _, [], _, _ => trivial
  | _, [_], _ :: _, _, _ => trivial
  | _, _ :: _ :: _, [_], _, _ => trivial
  | g, x :: x' :: xs, y :: y' :: ys, h, k => ⟨by have := h.1; have := k.1; (dsimp only; omega), mxg_lip h.2 k.2⟩
theorem mxg_gd {g : Int} {a b : List Int} {c c' : Int} (h : Gd c a) (k : Gd c' b) (e : a.length = b.length) : Gd c (mxg g a b) :=
  ⟨mxg_mono h.mo k.mo, mxg_lip h.li k.li, nn_le2 h.no (mxg_ge e), low_le2 h.lo (mxg_ge e)⟩
end FW

/-! FwD: the rows together. -/
namespace FW
open PySem FK
/-- floors above w, of the size s: each above the last -/
def G2p (m : Nat) (w : List Int) : List Int → List (List Int) → Prop
  | [], [] => True
  | s' :: ss, w' :: ws => Gd (s' - (m : Int)) w' ∧ w'.length = m + 1 ∧ le2 w w' ∧ G2p m w' ss ws
  | _, _ => False
def Np (m : Nat) (s : Int) (w : List Int) : List Int → List (List Int) → Prop
  | [], [] => True
  | s' :: ss, w' :: ws => Gd (s' - (m : Int)) w' ∧ w'.length = m + 1 ∧ le2 w w' ∧ leg (s' - s) w' w ∧ Np m s' w' ss ws
  | _, _ => False
def upF (s : Int) : List Int → Prop
  | [] => True
  | s' :: ss => s ≤ s' ∧ upF s' ss
def Nest (m : Nat) : List Int → List (List Int) → Prop
  | s :: ss, w :: ws => Gd (s - (m : Int)) w ∧ w.length = m + 1 ∧ Np m s w ss ws
  | _, _ => False
theorem mx_same {a b : List Int} (h : le2 a b) : mx a b = b := le2_anti (mx_le h (le2_refl b)) (mx_ge2 (le2_len h))
theorem mxg_same {g : Int} {a b : List Int} (h : leg g b a) (e : a.length = b.length) : mxg g a b = a := le2_anti (mxg_le (le2_refl a) h) (mxg_ge e)
/-! ### what is nested stays -/
section
variable {m : Nat}
theorem stepP_same {s : Int} {w : List Int} (h : Gd (s - (m : Int)) w) (e : w.length = m + 1) : stepP w s = w := by
  refine stepP_fix ?_
  rw [e, show ((m + 1 : Nat) : Int) - 1 = (m : Int) by omega]
  exact h
theorem steps_same : ∀ {ss : List Int} {ws : List (List Int)} {s : Int} {w : List Int}, Np m s w ss ws → stepsP ws ss = ws
  | [], [], _, _, _ => rfl
  | s' :: ss, w' :: ws, s, w, h => by
    show stepP w' s' :: stepsP ws ss = w' :: ws
    rw [stepP_same h.1 h.2.1, steps_same h.2.2.2.2]
  | [], _ :: _, _, _, h => h.elim
  | _ :: _, [], _, _, h => h.elim
theorem up_same : ∀ {ss : List Int} {ws : List (List Int)} {s : Int} {w : List Int}, Np m s w ss ws → upGo w ws = ws
  | [], [], _, _, _ => rfl
  | s' :: ss, w' :: ws, s, w, h => by
    show mx w w' :: upGo (mx w w') ws = w' :: ws
    rw [mx_same h.2.2.1, up_same h.2.2.2.2]
  | [], _ :: _, _, _, h => h.elim
  | _ :: _, [], _, _, h => h.elim
theorem dn_same : ∀ {ss : List Int} {ws : List (List Int)} {s : Int} {w : List Int}, w.length = m + 1 → Np m s w ss ws → dnP (s :: ss) (w :: ws) = w :: ws
  | [], [], s, w, _, _ => dnP_one s w
  | s' :: ss, w' :: ws, s, w, e, h => by
    rw [dnP_cons s s' ss w w' ws (dn_same h.2.1 h.2.2.2.2), mxg_same h.2.2.2.1 (by rw [e, h.2.1])]
  | [], _ :: _, _, _, _, h => h.elim
  | _ :: _, [], _, _, _, h => h.elim
theorem nest_same : ∀ {ss : List Int} {ws : List (List Int)}, Nest m ss ws → wordsP ws ss = ws
  | s :: ss, w :: ws, h => by
    show dnP (s :: ss) (upP (stepP w s :: stepsP ws ss)) = w :: ws
    rw [stepP_same h.1 h.2.1, steps_same h.2.2]
    show dnP (s :: ss) (w :: upGo w ws) = _
    rw [up_same h.2.2, dn_same h.2.1 h.2.2]
  | [], _, h => h.elim
  | _ :: _, [], h => h.elim
/-! ### what comes out is nested -/
def Len (m : Nat) (ws : List (List Int)) : Prop := ∀ w ∈ ws, w.length = m + 1
theorem up_nest : ∀ {ss : List Int} {rows : List (List Int)} {w : List Int} {c : Int}, rows.length = ss.length → Len m rows → Gd c w → w.length = m + 1 → G2p m w ss (upGo w (stepsP rows ss))
  | [], [], _, _, _, _, _, _ => trivial
  | s :: ss, r :: rows, w, c, h, hl, g, e => by
    have er := hl r (List.mem_cons_self ..)
    have g1 : Gd (s - (m : Int)) (stepP r s) := by
      have := stepP_gd r s
      rwa [er, show ((m + 1 : Nat) : Int) - 1 = (m : Int) by omega] at this
    have e1 : (stepP r s).length = m + 1 := by rw [stepP_len, er]
    have e2 : w.length = (stepP r s).length := by rw [e, e1]
    refine ⟨mx_gd g g1 e2, by rw [mx_len e2, e1], mx_ge1 e2, ?_⟩
    exact up_nest (Nat.succ.inj h) (fun w hw => hl w (List.mem_cons_of_mem _ hw)) (mx_gd g g1 e2) (by rw [mx_len e2, e1])
  | [], _ :: _, _, _, h, _, _, _ => by cases h
  | _ :: _, [], _, _, h, _, _, _ => by cases h
theorem dn_nest : ∀ {ss : List Int} {ws : List (List Int)} {s : Int} {w : List Int}, Gd (s - (m : Int)) w → w.length = m + 1 → G2p m w ss ws → upF s ss → ∃ v vs, dnP (s :: ss) (w :: ws) = v :: vs ∧ Gd (s - (m : Int)) v ∧ v.length = m + 1 ∧ le2 w v ∧ Np m s v ss vs
  | [], [], s, w, g, e, _, _ => ⟨w, [], dnP_one s w, g, e, le2_refl w, trivial⟩
  | s' :: ss, w' :: ws, s, w, g, e, h, u => by
    obtain ⟨v, vs, h1, h2, h3, h4, h5⟩ := dn_nest h.1 h.2.1 h.2.2.2 u.2
    have el : w.length = v.length := by rw [e, h3]
    refine ⟨_, _, dnP_cons s s' ss w w' ws h1, mxg_gd g h2 el, by rw [mxg_len el, e], mxg_ge el, h2, h3, ?_, mxg_leg el, h5⟩
    exact mxg_le (le2_trans h.2.2.1 h4) (leg_of_le2 (by have := u.1; omega) (le2_refl v))
  | [], _ :: _, _, _, _, _, h, _ => h.elim
  | _ :: _, [], _, _, _, _, h, _ => h.elim
theorem words_nest {rows : List (List Int)} {s : Int} {ss : List Int} (h : rows.length = (s :: ss).length) (hl : Len m rows) (u : upF s ss) : Nest m (s :: ss) (wordsP rows (s :: ss)) := by
  cases rows with
  | nil => cases h
  | cons r rows =>
    have er := hl r (List.mem_cons_self ..)
    have g1 : Gd (s - (m : Int)) (stepP r s) := by
      have := stepP_gd r s
      rwa [er, show ((m + 1 : Nat) : Int) - 1 = (m : Int) by omega] at this
    have e1 : (stepP r s).length = m + 1 := by rw [stepP_len, er]
    have hu := up_nest (Nat.succ.inj h) (fun w hw => hl w (List.mem_cons_of_mem _ hw)) g1 e1
    obtain ⟨v, vs, h1, h2, h3, _, h5⟩ := dn_nest g1 e1 hu u
    have : wordsP (r :: rows) (s :: ss) = v :: vs := h1
    rw [this]
    exact ⟨h2, h3, h5⟩
/-! ### the last look -/
theorem low_get : ∀ {w : List Int} {c : Int} {p : Nat} {x : Int}, low c w → w[p]? = some x → c + (p : Int) ≤ x
  | [], _, _, _, _, e => by simp at e
  | y :: w, c, 0, x, h, e => by
    simp at e; subst e
    have := h.1
    simpa using this
  | y :: w, c, p + 1, x, h, e => by
    have := low_get (p := p) h.2 (by simpa using e)
    push_cast
    omega
theorem nn_mem : ∀ {w : List Int} {c x : Int}, nn c w → x ∈ w → c ≤ x
  | y :: w, c, x, h, e => by
    rcases List.mem_cons.mp e with rfl | e
    · exact h.1
    · exact nn_mem h.2 e
theorem okW_get {w : List Int} {s : Int} (h : okW w s = true) {p : Nat} {x : Int} (e : w[p]? = some x) : x ≤ p ∧ x ≤ s := by
  unfold okW at h
  rw [Bool.not_eq_true', List.any_eq_false] at h
  have := h (x, p) (by rw [List.mem_zipIdx_iff_getElem?]; simpa using e)
  simp only [decide_eq_true_eq] at this
  omega
theorem okW_bad {s : Int} {w : List Int} (g : Gd (s - (m : Int)) w) (e : w.length = m + 1) (h : (m : Int) < s) : okW w s = false := by
  cases q : okW w s with
  | false => rfl
  | true =>
    obtain ⟨x, hx⟩ : ∃ x, w[m]? = some x := ⟨w[m]'(by omega), List.getElem?_eq_getElem (by omega)⟩
    have h1 := low_get g.lo hx
    have h2 := okW_get q hx
    omega
theorem okP_cons (w : List Int) (ws : List (List Int)) (s : Int) (ss : List Int) : okP (w :: ws) (s :: ss) = (okW w s && okP ws ss) := rfl
theorem okP_bad : ∀ {ss : List Int} {ws : List (List Int)} {s : Int} {w : List Int}, Gd (s - (m : Int)) w → w.length = m + 1 → Np m s w ss ws → (m : Int) < (s :: ss).getLast (List.cons_ne_nil _ _) → okP (w :: ws) (s :: ss) = false
  | [], [], s, w, g, e, _, h => by
    rw [okP_cons, okW_bad g e h]; rfl
  | s' :: ss, w' :: ws, s, w, _, _, n, h => by
    rw [okP_cons, okP_bad n.1 n.2.1 n.2.2.2.2 (by rwa [List.getLast_cons (List.cons_ne_nil s' ss)] at h), Bool.and_false]
  | [], _ :: _, _, _, _, _, h, _ => h.elim
  | _ :: _, [], _, _, _, _, h, _ => h.elim
/-! ### sizes -/
theorem upB_iff : ∀ {s : Int} {ss : List Int}, upB (s :: ss) = true ↔ upF s ss
  | _, [] => ⟨fun _ => trivial, fun _ => rfl⟩
  | s, s' :: ss => by
    have ih := upB_iff (s := s') (ss := ss)
    show ((decide (s ≤ s') && ((s' :: ss).zip ss).all fun q => decide (q.1 ≤ q.2)) = true) ↔ (s ≤ s' ∧ upF s' ss)
    rw [Bool.and_eq_true, decide_eq_true_iff, ← ih]
    rfl
theorem areP_cons (x : Int) (xs : List Int) (many : Int) : areP (x :: xs) many = (!(decide (x < 0) || decide (many < (x :: xs).getLast (List.cons_ne_nil _ _))) && upB (x :: xs)) := rfl
/-- what the law asks of the sizes -/
def downB (ss : List Int) : Bool := ((0 :: ss).zip ss).any fun q => decide (q.2 < q.1)
theorem downB_iff {s : Int} {ss : List Int} : downB (s :: ss) = false ↔ 0 ≤ s ∧ upF s ss := by
  have h : downB (s :: ss) = !(decide (0 ≤ s) && upB (s :: ss)) := by
    have e : ∀ (a : Int) (xs : List Int), (((a :: xs).zip xs).any fun q => decide (q.2 < q.1)) = !upB (a :: xs) := by
      intro a xs
      unfold upB
      rw [List.not_all_eq_any_not]
      congr 1
      funext q
      by_cases h : q.1 ≤ q.2
      · rw [decide_eq_true h, decide_eq_false (by omega)]; rfl
      · rw [decide_eq_false h, decide_eq_true (by omega)]; rfl
    show (((0 : Int) :: s :: ss).zip (s :: ss)).any _ = _
    rw [e 0 (s :: ss)]
    rfl
  rw [h, Bool.not_eq_false', Bool.and_eq_true, decide_eq_true_iff, upB_iff]
def lawT (rows : List (List Int)) (ss : List Int) : Option (List (List Int)) := if downB ss then none else if okP (wordsP rows ss) ss then some (wordsP rows ss) else none
theorem lawT_eq {rows : List (List Int)} {ss : List Int} (h0 : rows ≠ []) (h : rows.length = ss.length) (hl : Len m rows) : lawT rows ss = tightP rows ss := by
  obtain ⟨r, rs, rfl⟩ := List.exists_cons_of_ne_nil h0
  obtain ⟨s, ss, rfl⟩ : ∃ s t, ss = s :: t := List.exists_cons_of_ne_nil (by
    intro e; rw [e] at h; cases h)
  have er := hl r (List.mem_cons_self ..)
  unfold lawT
  show _ = (if areP (s :: ss) ((r.length : Int) - 1) && okP (wordsP (r :: rs) (s :: ss)) (s :: ss) then some (wordsP (r :: rs) (s :: ss)) else none)
  rw [er, show ((m + 1 : Nat) : Int) - 1 = (m : Int) by omega]
  cases hd : downB (s :: ss) with
  | true =>
    have : areP (s :: ss) m = false := by
      cases ha : areP (s :: ss) m with
      | false => rfl
      | true =>
        unfold areP at ha
        simp only [Bool.and_eq_true, Bool.not_eq_true', Bool.or_eq_false_iff, decide_eq_false_iff_not] at ha
        have := (downB_iff (s := s) (ss := ss)).mpr ⟨by omega, upB_iff.mp ha.2⟩
        rw [hd] at this
        cases this
    rw [this]
    rfl
  | false =>
    obtain ⟨h1, h2⟩ := downB_iff.mp hd
    have hn := words_nest h hl h2
    cases ha : areP (s :: ss) m with
    | true => rw [Bool.true_and]; rfl
    | false =>
      have hm : (m : Int) < (s :: ss).getLast (List.cons_ne_nil _ _) := by
        rw [areP_cons] at ha
        have hu := upB_iff.mpr h2
        rw [hu, Bool.and_true, Bool.not_eq_false', Bool.or_eq_true, decide_eq_true_iff, decide_eq_true_iff] at ha
        rcases ha with ha | ha
        · omega
        · exact ha
      have hk : okP (wordsP (r :: rs) (s :: ss)) (s :: ss) = false := by
        generalize wordsP (r :: rs) (s :: ss) = W at hn
        cases W with
        | nil => exact hn.elim
        | cons w ws => exact okP_bad hn.1 hn.2.1 hn.2.2 hm
      rw [hk]
      rfl
theorem np_len : ∀ {ss : List Int} {ws : List (List Int)} {s : Int} {w : List Int}, Np m s w ss ws → ws.length = ss.length
  | [], [], _, _, _ => rfl
  | s' :: ss, w' :: ws, s, w, h => by rw [List.length_cons, List.length_cons, np_len h.2.2.2.2]
  | [], _ :: _, _, _, h => h.elim
  | _ :: _, [], _, _, h => h.elim
theorem np_all : ∀ {ss : List Int} {ws : List (List Int)} {s : Int} {w : List Int}, Np m s w ss ws → ∀ v ∈ ws, v.length = m + 1 ∧ mono v ∧ nn 0 v
  | [], [], _, _, _, v, hv => by cases hv
  | s' :: ss, w' :: ws, s, w, h, v, hv => by
    rcases List.mem_cons.mp hv with rfl | hv
    · exact ⟨h.2.1, h.1.mo, h.1.no⟩
    · exact np_all h.2.2.2.2 v hv
  | [], _ :: _, _, _, h, _, _ => h.elim
  | _ :: _, [], _, _, h, _, _ => h.elim
/-- what tightened gives -/
structure Tight (m : Nat) (W : List (List Int)) (ss : List Int) : Prop where
  nil : W ≠ []
  len : W.length = ss.length
  all : ∀ v ∈ W, v.length = m + 1 ∧ mono v ∧ nn 0 v
  top : ∀ v ∈ W, ∀ x ∈ v, x ≤ (m : Int)
  again : tightP W ss = some W
theorem okP_all : ∀ {ws : List (List Int)} {ss : List Int}, ws.length = ss.length → okP ws ss = true → ∀ w ∈ ws, ∃ s, okW w s = true
  | [], _, _, _, w, hw => by cases hw
  | w' :: ws, [], h, _, _, _ => by cases h
  | w' :: ws, s :: ss, h, hk, w, hw => by
    rw [okP_cons, Bool.and_eq_true] at hk
    rcases List.mem_cons.mp hw with rfl | hw
    · exact ⟨s, hk.1⟩
    · exact okP_all (Nat.succ.inj h) hk.2 w hw
theorem tight_of {rows W : List (List Int)} {ss : List Int} (h : rows.length = ss.length) (hl : Len m rows) (e : tightP rows ss = some W) : Tight m W ss := by
  cases rows with
  | nil => cases e
  | cons r rs =>
    have er := hl r (List.mem_cons_self ..)
    have e' : (if areP ss ((r.length : Int) - 1) && okP (wordsP (r :: rs) ss) ss then some (wordsP (r :: rs) ss) else none) = some W := e
    rw [er, show ((m + 1 : Nat) : Int) - 1 = (m : Int) by omega] at e'
    split at e'
    · rename_i hc
      cases e'
      rw [Bool.and_eq_true] at hc
      obtain ⟨s, ss, rfl⟩ : ∃ s t, ss = s :: t := List.exists_cons_of_ne_nil (by
        intro e; rw [e] at h; cases h)
      have ha := hc.1
      unfold areP at ha
      rw [Bool.and_eq_true] at ha
      have hn := words_nest h hl (upB_iff.mp ha.2)
      have hs := nest_same hn
      have hk := hc.2
      generalize wordsP (r :: rs) (s :: ss) = W at hn hs hk
      cases W with
      | nil => exact hn.elim
      | cons w ws =>
        have hlen : (w :: ws).length = (s :: ss).length := by rw [List.length_cons, List.length_cons, np_len hn.2.2]
        have hall : ∀ v ∈ w :: ws, v.length = m + 1 ∧ mono v ∧ nn 0 v := fun v hv => by
          rcases List.mem_cons.mp hv with rfl | hv
          · exact ⟨hn.2.1, hn.1.mo, hn.1.no⟩
          · exact np_all hn.2.2 v hv
        refine ⟨by simp, hlen, hall, fun v hv x hx => ?_, ?_⟩
        · obtain ⟨s', hs'⟩ := okP_all hlen hk v hv
          obtain ⟨p, hp, e⟩ := List.mem_iff_getElem.mp hx
          have := (okW_get hs' (p := p) (x := x) (by rw [List.getElem?_eq_getElem hp, e])).1
          have := (hall v hv).1
          omega
        · show (if areP (s :: ss) ((w.length : Int) - 1) && okP (wordsP (w :: ws) (s :: ss)) (s :: ss) then some (wordsP (w :: ws) (s :: ss)) else none) = some (w :: ws)
          rw [hs, hk, hn.2.1, show ((m + 1 : Nat) : Int) - 1 = (m : Int) by omega, hc.1]
          rfl
    · cases e'
end
end FW

/-! FwE: the law's own tightening. -/
namespace FW
open PySem FK
/-! _law_tightened : 0 _law_rows_here, 1 _law_sizes, 2 _law_floors, 3 _law_many, 4 _law_words, 5 _law_one_here, 6 _law_other, 7 _law_row, 8 _law_size, 9 _law_word, 10 _law_ahead, 11 _law_count, 12 _law_floor, 13 _law_more -/
def b1__law_tightened : MS := (sSeq (sSet 10 (mFn oMax [(.nm 10), (.nm 5), (.ex (mBin oAdd (.ex (mBin oSub (.nm 8) (.nm 3))) (.nm 11)))]))
  (sApp 9 (mV 10)))
def b2__law_tightened : MS := (sItem 9 (mV 11) (mFn oMax [(.ex (mBin oIx (.nm 9) (.nm 11))), (.ex (mBin oSub (.ex (mBin oIx (.nm 9) (.ex (mBin oAdd (.nm 11) (.ex (mC (.int 1))))))) (.ex (mC (.int 1)))))]))
def b3__law_tightened : MS := (sSeq (sPar [9, 10] [(mLst []), (mC (.int 0))])
  (sSeq (sFor (itEnum (mV 7)) (.tup [(.nm 11), (.nm 5)]) b1__law_tightened)
  (sSeq (sFor (itRng [(.ex (mBin oSub (.nm 3) (.ex (mC (.int 1))))), (.ex (mUn oNeg (.ex (mC (.int 1))))), (.ex (mUn oNeg (.ex (mC (.int 1)))))]) (.nm 11) b2__law_tightened)
  (sApp 4 (mV 9)))))
def b4__law_tightened : MS := (sItem 4 (mV 12) (mComp [5, 6] (itZip (mBin oIx (.nm 4) (.nm 12)) (mBin oIx (.nm 4) (.ex (mBin oSub (.nm 12) (.ex (mC (.int 1))))))) (.tup [(.nm 5), (.nm 6)]) mYes (mFn oMax [(.nm 5), (.nm 6)])))
def b5__law_tightened : MS := (sSeq (sSet 13 (mBin oSub (.ex (mBin oIx (.nm 1) (.ex (mBin oAdd (.nm 12) (.ex (mC (.int 1))))))) (.ex (mBin oIx (.nm 1) (.nm 12)))))
  (sItem 4 (mV 12) (mComp [5, 6] (itZip (mBin oIx (.nm 4) (.nm 12)) (mBin oIx (.nm 4) (.ex (mBin oAdd (.nm 12) (.ex (mC (.int 1))))))) (.tup [(.nm 5), (.nm 6)]) mYes (mFn oMax [(.nm 5), (.ex (mBin oSub (.nm 6) (.nm 13)))]))))
def b6__law_tightened : MS := (sIf (asT (mBin oNe (.ex (mComp [11, 5] (itEnum (mV 9)) (.tup [(.nm 11), (.nm 5)]) (asT (mBin oGt (.nm 5) (.ex (mFn oMin [(.nm 11), (.nm 8)])))) (mC (.int 1)))) (.ex (mLst []))))
  (sRet (mC .none))
  sNx)
def m__law_tightened : MS := (sSeq (sPar [2, 3, 4] [(mFn oLen [(.nm 0)]), (mBin oSub (.ex (mFn oLen [(.ex (mBin oIx (.nm 0) (.ex (mC (.int 0)))))])) (.ex (mC (.int 1)))), (mLst [])])
  (sSeq (sIf (asT (mBin oNe (.ex (mComp [5, 6] (itZip (mBin oAdd (.ex (mTup [(false, (mC (.int 0)))])) (.nm 1)) (mV 1)) (.tup [(.nm 5), (.nm 6)]) (asT (mBin oLt (.nm 6) (.nm 5))) (mC (.int 1)))) (.ex (mLst []))))
  (sRet (mC .none))
  sNx)
  (sSeq (sFor (itZip (mV 0) (mV 1)) (.tup [(.nm 7), (.nm 8)]) b3__law_tightened)
  (sSeq (sFor (itRng [(.ex (mC (.int 1))), (.nm 2)]) (.nm 12) b4__law_tightened)
  (sSeq (sFor (itRng [(.ex (mBin oSub (.nm 2) (.ex (mC (.int 2))))), (.ex (mUn oNeg (.ex (mC (.int 1))))), (.ex (mUn oNeg (.ex (mC (.int 1)))))]) (.nm 12) b5__law_tightened)
  (sSeq (sFor (itZip (mV 4) (mV 1)) (.tup [(.nm 9), (.nm 8)]) b6__law_tightened)
  (sRet (mFn oTuple [(.ex (mComp [9] (itSeq (mV 4)) (.nm 9) mYes (mFn oTuple [(.nm 9)])))]))))))))
def e__law_tightened : FnE := ⟨fnOf 14 m__law_tightened, 2, false⟩
/-! _law_is_told : 0 _law_rows_here, 1 _law_sizes, 2 _law_due, 3 _law_shown, 4 _law_again -/
def b1__law_is_told : MS := (sIf (mOr (mNot (mT (.ex (mCall e__law_alike [(false, (mCall e_tightened [(false, (mV 0)), (false, (mV 1))])), (false, (mV 2))])))) (asT (mBin oNe (.ex (mFn oRepr [(.ex (mLst [(false, (mV 0)), (false, (mV 1))]))])) (.nm 3))))
  (sRet (mC (.bool false)))
  sNx)
def m__law_is_told : MS := (sSeq (sPar [2, 3] [(mCall e__law_tightened [(false, (mV 0)), (false, (mV 1))]), (mFn oRepr [(.ex (mLst [(false, (mV 0)), (false, (mV 1))]))])])
  (sSeq (sFor (itRng [(.ex (mC (.int 2)))]) (.nm 4) b1__law_is_told)
  (sRet (mOrV (mBin oIs (.nm 2) (.ex (mC .none))) (mCall e__law_alike [(false, (mCall e_tightened [(false, (mV 2)), (false, (mV 1))])), (false, (mV 2))])))))
def e__law_is_told : FnE := ⟨fnOf 5 m__law_is_told, 2, false⟩
/-! _law_known_sizes : 0 _law_known, 1 _law_word -/
def m__law_known_sizes : MS := (sRet (mFn oTuple [(.ex (mComp [1] (itSeq (mBin oIx (.nm 0) (.ex (mC (.int 1))))) (.nm 1) mYes (mBin oIx (.nm 1) (.ex (mUn oNeg (.ex (mC (.int 1))))))))]))
def e__law_known_sizes : FnE := ⟨fnOf 2 m__law_known_sizes, 1, false⟩
theorem ne_nil {xs : List FK.D} : oNe (.list xs) (.list []) = some (.fz (.bool (!xs.isEmpty))) := by
  have h : eqD (.list xs) (.list []) = some (PyData.eqv (.list xs) (.list [])) := by
    show (if min (PyData.list xs).depth (PyData.list []).depth ≤ 64 then some (PyData.eqv (.list xs) (.list [])) else none) = _
    rw [if_pos (by
      have : (PyData.list []).depth = 1 := rfl
      omega)]
  unfold oNe
  rw [h]
  cases xs <;> rfl
theorem flat_if {α : Type} {d : FK.D} (p : α → Prop) [DecidablePred p] : ∀ L : List α, (L.flatMap fun q => if p q then [d] else []).isEmpty = !(L.any fun q => decide (p q))
  | [] => rfl
  | x :: xs => by
    rw [List.flatMap_cons, List.any_cons]
    by_cases h : p x
    · rw [if_pos h, decide_eq_true h]; rfl
    · rw [if_neg h, decide_eq_false h, Bool.false_or, ← flat_if p xs]
      rfl
section
variable {R S F : Option Val} {m : Nat}
/-- a row's word -/
theorem lt_row {row : List Int} {s : Int} {x5 x6 x9 x10 x11 x12 x13 : Option Val} {Q : Fl → Rho → Prop} {ws : List FK.D} (h1 : row.length = m + 1) (hm : m ≤ 1000) (hw : ws.length ≤ 1000)
    (fin : ∀ x5 x10 x11, isOw (some x5) = false → isOw (some x11) = false → Q .nx [R, S, F, some (.fz (.int (m : Int))), some (.ow (ws ++ [lisI (stepP row s)])), x5, x6, some (.fz (tupI row)), some (.fz (.int s)), some (.fz (lisI (stepP row s))), x10, x11, x12, x13]) (h5 : isOw (some x5) = false) (h11 : isOw (some x11) = false) :
    wp b3__law_tightened [R, S, F, some (.fz (.int (m : Int))), some (.ow ws), x5, x6, some (.fz (tupI row)), some (.fz (.int s)), x9, x10, x11, x12, x13] Q := by
  have hm3 : m ≤ 1000000 := by omega
  unfold b3__law_tightened
  simp -implicitDefEqProofs only [wp_bnd, wp_ret, wp_lift, wpV_some, wpV_none, wpV_ite, wpV_map, wp_stop, wp_ite, wp_mC, wp_mV, wp_mMove, wp_peek, wp_setS, wp_chk, wp_chg', wp_mCall, wp_mCallR, wp_sAug, wp_sAugI, wp_sSeq, wp_mComp, wp_run_nm, wp_run_ex, wp_get_nm, wp_get_ex, wp_mUn, wp_mBin, wp_runs_nil, wp_runs_cons, wp_gets_nil, wp_gets_cons, wp_mFn, wp_it_nil, wp_it_one, wp_it_star, wp_mTup, wp_mLst, wp_mT, wp_mNot, wp_mAnd, wp_mOr, wp_mBl, wp_asT, wp_mAndV, wp_mOrV, wp_mNotB, wp_mIf, wp_mYes, wp_itSeq, wp_itRng, wp_itEnum, wp_itZip, wp_lstRng, wp_tupRng, wp_part_none, wp_part_some, wp_mSl, wp_put_nm, wp_put_tup, wp_putAll_nil, wp_putAll_cons, wp_sNx, wp_sSet, wp_sPut, wp_temps_nil, wp_temps_cons, wp_setAll_nil, wp_setAll_cons, wp_sPar, wp_sDrop, wp_sRet, wp_sIf, wp_sFor, wp_sItem, wp_sApp, wp_sIns, wp_turn1, dat_fz, dat_ow, truth_int, truth_bool, truth_list, truth_tup, asBool_bool, intOf_int, seqOf_list, seqOf_tup, add_int, add_tup, add_list, sub_int, mul_int, mul_tup, mul_list, mod_int, fdiv_int, neg_int, lt_int, le_int, gt_int, ge_int, eq_int, ne_int, is_non, isnot_non, isNon, sl_list, sl_tup, len_list, len_tup, int_int, abs_int, max_2, max_3, min_2, min_3, tuple_list, tuple_tup, list_list, list_tup, app_D, ins_D, oIx_list, oIx_tup, getAt_0, getAt_1, getAt_2, getAt_3, putAt_0, putAt_1, putAt_2, ite_and, if_true, if_false, Bool.false_eq_true, ↓reduceIte, List.getElem?_cons_zero, List.getElem?_cons_succ, List.set_cons_zero, List.set_cons_succ, List.length_cons, List.length_nil, List.length_set, isOw_ow, isOw_fz, isOw_none, Nat.reduceAdd, Nat.reduceLT, Nat.reduceEqDiff, Nat.reduceSub, Int.reduceLT, Int.reduceLE, true_and, and_true, List.map_cons, List.map_nil, List.append_nil, List.nil_append, List.cons_append, List.replicate, wipeR, restore, noOw, List.all_cons, List.all_nil, Bool.not_false, Bool.not_true, Bool.and_true, Bool.and_self, szOk, Nat.reduceLeDiff, Option.getD_some, Option.getD_none, decide_eq_true_eq, Nat.zero_add, out0, List.length_map]
  refine wp_enum (enc := PyData.int) (fun p rest ρ => ∃ pre acc x5 x11, isOw (some x5) = false ∧ isOw (some x11) = false ∧ ρ = [R, S, F, some (.fz (.int (m : Int))), some (.ow ws), x5, x6, some (.fz (tupI row)), some (.fz (.int s)), some (.ow (intsD pre)), some (.fz (.int acc)), x11, x12, x13] ∧
    pre ++ st1 (m : Int) s acc p rest = st1 (m : Int) s 0 0 row ∧ pre.length + rest.length = row.length) (fun p x rest ρ h => ?_) (fun p ρ h => ?_) ⟨[], 0, _, _, h5, h11, rfl, rfl, by simp⟩
  · obtain ⟨pre, acc, x5, x11, h5, h11, rfl, e1, e2⟩ := h
    unfold b1__law_tightened
    simp -implicitDefEqProofs only [wp_bnd, wp_ret, wp_lift, wpV_some, wpV_none, wpV_ite, wpV_map, wp_stop, wp_ite, wp_mC, wp_mV, wp_mMove, wp_peek, wp_setS, wp_chk, wp_chg', wp_mCall, wp_mCallR, wp_sAug, wp_sAugI, wp_sSeq, wp_mComp, wp_run_nm, wp_run_ex, wp_get_nm, wp_get_ex, wp_mUn, wp_mBin, wp_runs_nil, wp_runs_cons, wp_gets_nil, wp_gets_cons, wp_mFn, wp_it_nil, wp_it_one, wp_it_star, wp_mTup, wp_mLst, wp_mT, wp_mNot, wp_mAnd, wp_mOr, wp_mBl, wp_asT, wp_mAndV, wp_mOrV, wp_mNotB, wp_mIf, wp_mYes, wp_itSeq, wp_itRng, wp_itEnum, wp_itZip, wp_lstRng, wp_tupRng, wp_part_none, wp_part_some, wp_mSl, wp_put_nm, wp_put_tup, wp_putAll_nil, wp_putAll_cons, wp_sNx, wp_sSet, wp_sPut, wp_temps_nil, wp_temps_cons, wp_setAll_nil, wp_setAll_cons, wp_sPar, wp_sDrop, wp_sRet, wp_sIf, wp_sFor, wp_sItem, wp_sApp, wp_sIns, wp_turn1, dat_fz, dat_ow, truth_int, truth_bool, truth_list, truth_tup, asBool_bool, intOf_int, seqOf_list, seqOf_tup, add_int, add_tup, add_list, sub_int, mul_int, mul_tup, mul_list, mod_int, fdiv_int, neg_int, lt_int, le_int, gt_int, ge_int, eq_int, ne_int, is_non, isnot_non, isNon, sl_list, sl_tup, len_list, len_tup, int_int, abs_int, max_2, max_3, min_2, min_3, tuple_list, tuple_tup, list_list, list_tup, app_D, ins_D, oIx_list, oIx_tup, getAt_0, getAt_1, getAt_2, getAt_3, putAt_0, putAt_1, putAt_2, ite_and, if_true, if_false, Bool.false_eq_true, ↓reduceIte, List.getElem?_cons_zero, List.getElem?_cons_succ, List.set_cons_zero, List.set_cons_succ, List.length_cons, List.length_nil, List.length_set, isOw_ow, isOw_fz, isOw_none, Nat.reduceAdd, Nat.reduceLT, Nat.reduceEqDiff, Nat.reduceSub, Int.reduceLT, Int.reduceLE, true_and, and_true, List.map_cons, List.map_nil, List.append_nil, List.nil_append, List.cons_append, List.replicate, wipeR, restore, noOw, List.all_cons, List.all_nil, Bool.not_false, Bool.not_true, Bool.and_true, Bool.and_self, szOk, Nat.reduceLeDiff, Option.getD_some, Option.getD_none, decide_eq_true_eq, Nat.zero_add, out0, List.length_map]
    refine ⟨?_, pre ++ [max (max acc x) (s - (m : Int) + (p : Int))], _, _, _, rfl, rfl, by rw [ints_app, ints_one], ?_, ?_⟩
    · simp only [List.length_cons] at e2; omega
    · rw [List.append_assoc]; exact e1
    · simp only [List.length_append, List.length_cons, List.length_nil] at e2 ⊢; omega
  · obtain ⟨pre, acc, x5, x11, h5, h11, rfl, e1, e2⟩ := h
    have hs : stepP row s = back (st1 (m : Int) s 0 0 row) := by
      unfold stepP
      rw [h1, show ((m + 1 : Nat) : Int) - 1 = (m : Int) by omega]
    have hl := st1_len (m := (m : Int)) (s := s) row 0 0
    have ep : pre = st1 (m : Int) s 0 0 row := by rw [← e1]; exact (List.append_nil _).symm
    generalize hL : st1 (m : Int) s 0 0 row = L at ep hl hs
    subst ep
    simp -implicitDefEqProofs only [wp_bnd, wp_ret, wp_lift, wpV_some, wpV_none, wpV_ite, wpV_map, wp_stop, wp_ite, wp_mC, wp_mV, wp_mMove, wp_peek, wp_setS, wp_chk, wp_chg', wp_mCall, wp_mCallR, wp_sAug, wp_sAugI, wp_sSeq, wp_mComp, wp_run_nm, wp_run_ex, wp_get_nm, wp_get_ex, wp_mUn, wp_mBin, wp_runs_nil, wp_runs_cons, wp_gets_nil, wp_gets_cons, wp_mFn, wp_it_nil, wp_it_one, wp_it_star, wp_mTup, wp_mLst, wp_mT, wp_mNot, wp_mAnd, wp_mOr, wp_mBl, wp_asT, wp_mAndV, wp_mOrV, wp_mNotB, wp_mIf, wp_mYes, wp_itSeq, wp_itRng, wp_itEnum, wp_itZip, wp_lstRng, wp_tupRng, wp_part_none, wp_part_some, wp_mSl, wp_put_nm, wp_put_tup, wp_putAll_nil, wp_putAll_cons, wp_sNx, wp_sSet, wp_sPut, wp_temps_nil, wp_temps_cons, wp_setAll_nil, wp_setAll_cons, wp_sPar, wp_sDrop, wp_sRet, wp_sIf, wp_sFor, wp_sItem, wp_sApp, wp_sIns, wp_turn1, dat_fz, dat_ow, truth_int, truth_bool, truth_list, truth_tup, asBool_bool, intOf_int, seqOf_list, seqOf_tup, add_int, add_tup, add_list, sub_int, mul_int, mul_tup, mul_list, mod_int, fdiv_int, neg_int, lt_int, le_int, gt_int, ge_int, eq_int, ne_int, is_non, isnot_non, isNon, sl_list, sl_tup, len_list, len_tup, int_int, abs_int, max_2, max_3, min_2, min_3, tuple_list, tuple_tup, list_list, list_tup, app_D, ins_D, oIx_list, oIx_tup, getAt_0, getAt_1, getAt_2, getAt_3, putAt_0, putAt_1, putAt_2, ite_and, if_true, if_false, Bool.false_eq_true, ↓reduceIte, List.getElem?_cons_zero, List.getElem?_cons_succ, List.set_cons_zero, List.set_cons_succ, List.length_cons, List.length_nil, List.length_set, isOw_ow, isOw_fz, isOw_none, Nat.reduceAdd, Nat.reduceLT, Nat.reduceEqDiff, Nat.reduceSub, Int.reduceLT, Int.reduceLE, true_and, and_true, List.map_cons, List.map_nil, List.append_nil, List.nil_append, List.cons_append, List.replicate, wipeR, restore, noOw, List.all_cons, List.all_nil, Bool.not_false, Bool.not_true, Bool.and_true, Bool.and_self, szOk, Nat.reduceLeDiff, Option.getD_some, Option.getD_none, decide_eq_true_eq, Nat.zero_add, out0, List.length_map, rngOf3 hm3]
    refine wp_down (fun p ρ => ∃ A B y ys x11, isOw (some x11) = false ∧ pre = A ++ B ∧ A.length = p ∧ back B = y :: ys ∧ ρ = [R, S, F, some (.fz (.int (m : Int))), some (.ow ws), x5, x6, some (.fz (tupI row)), some (.fz (.int s)), some (.ow (intsD A ++ PyData.int y :: intsD ys)), some (.fz (.int acc)), x11, x12, x13]) (fun p ρ hp h => ?_) (fun ρ h => ?_) ?_
    · obtain ⟨A, B, y, ys, x4, h4, e1, e2, e3, rfl⟩ := h
      obtain ⟨A', x, rfl, hA⟩ := snoc_of e2
      have ei : intsD (A' ++ [x]) ++ PyData.int y :: intsD ys = intsD A' ++ PyData.int x :: PyData.int y :: intsD ys := by
        rw [ints_app, ints_one, List.append_assoc]; rfl
      have hA' : ((intsD A').length : Int) = (p : Int) := by rw [List.length_map, hA]
      unfold b2__law_tightened
      simp -implicitDefEqProofs only [wp_bnd, wp_ret, wp_lift, wpV_some, wpV_none, wpV_ite, wpV_map, wp_stop, wp_ite, wp_mC, wp_mV, wp_mMove, wp_peek, wp_setS, wp_chk, wp_chg', wp_mCall, wp_mCallR, wp_sAug, wp_sAugI, wp_sSeq, wp_mComp, wp_run_nm, wp_run_ex, wp_get_nm, wp_get_ex, wp_mUn, wp_mBin, wp_runs_nil, wp_runs_cons, wp_gets_nil, wp_gets_cons, wp_mFn, wp_it_nil, wp_it_one, wp_it_star, wp_mTup, wp_mLst, wp_mT, wp_mNot, wp_mAnd, wp_mOr, wp_mBl, wp_asT, wp_mAndV, wp_mOrV, wp_mNotB, wp_mIf, wp_mYes, wp_itSeq, wp_itRng, wp_itEnum, wp_itZip, wp_lstRng, wp_tupRng, wp_part_none, wp_part_some, wp_mSl, wp_put_nm, wp_put_tup, wp_putAll_nil, wp_putAll_cons, wp_sNx, wp_sSet, wp_sPut, wp_temps_nil, wp_temps_cons, wp_setAll_nil, wp_setAll_cons, wp_sPar, wp_sDrop, wp_sRet, wp_sIf, wp_sFor, wp_sItem, wp_sApp, wp_sIns, wp_turn1, dat_fz, dat_ow, truth_int, truth_bool, truth_list, truth_tup, asBool_bool, intOf_int, seqOf_list, seqOf_tup, add_int, add_tup, add_list, sub_int, mul_int, mul_tup, mul_list, mod_int, fdiv_int, neg_int, lt_int, le_int, gt_int, ge_int, eq_int, ne_int, is_non, isnot_non, isNon, sl_list, sl_tup, len_list, len_tup, int_int, abs_int, max_2, max_3, min_2, min_3, tuple_list, tuple_tup, list_list, list_tup, app_D, ins_D, oIx_list, oIx_tup, getAt_0, getAt_1, getAt_2, getAt_3, putAt_0, putAt_1, putAt_2, ite_and, if_true, if_false, Bool.false_eq_true, ↓reduceIte, List.getElem?_cons_zero, List.getElem?_cons_succ, List.set_cons_zero, List.set_cons_succ, List.length_cons, List.length_nil, List.length_set, isOw_ow, isOw_fz, isOw_none, Nat.reduceAdd, Nat.reduceLT, Nat.reduceEqDiff, Nat.reduceSub, Int.reduceLT, Int.reduceLE, true_and, and_true, List.map_cons, List.map_nil, List.append_nil, List.nil_append, List.cons_append, List.replicate, wipeR, restore, noOw, List.all_cons, List.all_nil, Bool.not_false, Bool.not_true, Bool.and_true, Bool.and_self, szOk, Nat.reduceLeDiff, Option.getD_some, Option.getD_none, decide_eq_true_eq, Nat.zero_add, out0, List.length_map, ei, getAt_mid hA'.symm, getAt_mid1 (show (p : Int) + 1 = ((intsD A').length : Int) + 1 by omega), putAt_mid hA'.symm]
      exact ⟨A', x :: B, _, y :: ys, _, rfl, by rw [e1, List.append_assoc]; rfl, hA, back_two e3, rfl⟩
    · obtain ⟨A, B, y, ys, x4, h4, e1, e2, e3, rfl⟩ := h
      have : A = [] := List.eq_nil_of_length_eq_zero e2
      subst this
      have hwl : ws.length < 16777216 := by omega
      simp -implicitDefEqProofs only [wp_bnd, wp_ret, wp_lift, wpV_some, wpV_none, wpV_ite, wpV_map, wp_stop, wp_ite, wp_mC, wp_mV, wp_mMove, wp_peek, wp_setS, wp_chk, wp_chg', wp_mCall, wp_mCallR, wp_sAug, wp_sAugI, wp_sSeq, wp_mComp, wp_run_nm, wp_run_ex, wp_get_nm, wp_get_ex, wp_mUn, wp_mBin, wp_runs_nil, wp_runs_cons, wp_gets_nil, wp_gets_cons, wp_mFn, wp_it_nil, wp_it_one, wp_it_star, wp_mTup, wp_mLst, wp_mT, wp_mNot, wp_mAnd, wp_mOr, wp_mBl, wp_asT, wp_mAndV, wp_mOrV, wp_mNotB, wp_mIf, wp_mYes, wp_itSeq, wp_itRng, wp_itEnum, wp_itZip, wp_lstRng, wp_tupRng, wp_part_none, wp_part_some, wp_mSl, wp_put_nm, wp_put_tup, wp_putAll_nil, wp_putAll_cons, wp_sNx, wp_sSet, wp_sPut, wp_temps_nil, wp_temps_cons, wp_setAll_nil, wp_setAll_cons, wp_sPar, wp_sDrop, wp_sRet, wp_sIf, wp_sFor, wp_sItem, wp_sApp, wp_sIns, wp_turn1, dat_fz, dat_ow, truth_int, truth_bool, truth_list, truth_tup, asBool_bool, intOf_int, seqOf_list, seqOf_tup, add_int, add_tup, add_list, sub_int, mul_int, mul_tup, mul_list, mod_int, fdiv_int, neg_int, lt_int, le_int, gt_int, ge_int, eq_int, ne_int, is_non, isnot_non, isNon, sl_list, sl_tup, len_list, len_tup, int_int, abs_int, max_2, max_3, min_2, min_3, tuple_list, tuple_tup, list_list, list_tup, app_D, ins_D, oIx_list, oIx_tup, getAt_0, getAt_1, getAt_2, getAt_3, putAt_0, putAt_1, putAt_2, ite_and, if_true, if_false, Bool.false_eq_true, ↓reduceIte, List.getElem?_cons_zero, List.getElem?_cons_succ, List.set_cons_zero, List.set_cons_succ, List.length_cons, List.length_nil, List.length_set, isOw_ow, isOw_fz, isOw_none, Nat.reduceAdd, Nat.reduceLT, Nat.reduceEqDiff, Nat.reduceSub, Int.reduceLT, Int.reduceLE, true_and, and_true, List.map_cons, List.map_nil, List.append_nil, List.nil_append, List.cons_append, List.replicate, wipeR, restore, noOw, List.all_cons, List.all_nil, Bool.not_false, Bool.not_true, Bool.and_true, Bool.and_self, szOk, Nat.reduceLeDiff, Option.getD_some, Option.getD_none, decide_eq_true_eq, Nat.zero_add, out0, List.length_map, hwl]
      have eD : PyData.int y :: intsD ys = intsD (stepP row s) := by
        rw [hs, e1, List.nil_append, e3]; rfl
      rw [eD]
      exact fin _ _ _ h5 h4
    · obtain ⟨A, z, rfl, hA⟩ := snoc_of (hl.trans h1)
      exact ⟨A, [z], _, [], _, h11, rfl, hA, rfl, by rw [ints_app, ints_one]; rfl⟩
theorem mx_comm : ∀ (a b : List Int), (a.zip b).map (fun q => max q.1 q.2) = mx b a
  | [], [] => rfl
  | [], _ :: _ => rfl
  | _ :: _, [] => rfl
  | x :: a, y :: b => by
    show max x y :: (a.zip b).map (fun q => max q.1 q.2) = max y x :: mx b a
    rw [mx_comm a b, Int.max_comm]
variable {ss : List Int}
theorem lt_up {l : Nat} {W : List (List Int)} {M x7 x8 x9 x10 x11 x5 : Option Val} {Q : Fl → Rho → Prop} (lenW : W.length = l) (hW : W ≠ []) (h5 : isOw (some x5) = false)
    (fin : ∀ x12, Q .nx [R, S, F, M, some (.ow (lisD (upP W))), x5, none, x7, x8, x9, x10, x11, x12, none]) :
    wp (forL (.nm 12) b4__law_tightened ((List.range' 1 (l - 1)).map fun (k : Nat) => PyData.int (k : Int))) [R, S, F, M, some (.ow (lisD W)), x5, none, x7, x8, x9, x10, x11, none, none] Q := by
  obtain ⟨w0, ws0, rfl⟩ := List.exists_cons_of_ne_nil hW
  refine wp_up2 (fun j ρ => ∃ A p rest x12, A.length + 1 = j ∧ j + rest.length = l ∧ A ++ p :: upGo p rest = upP (w0 :: ws0) ∧
    ρ = [R, S, F, M, some (.ow (lisD A ++ lisI p :: lisD rest)), x5, none, x7, x8, x9, x10, x11, x12, none]) (fun j ρ hj1 hj2 h => ?_) (fun ρ h => ?_) ⟨[], w0, ws0, none, rfl, by rw [← lenW, List.length_cons]; omega, rfl, rfl⟩
  · obtain ⟨A, p, rest, x12, e1, e2, e3, rfl⟩ := h
    obtain ⟨w, rest, rfl⟩ : ∃ w ws, rest = w :: ws := List.exists_cons_of_ne_nil (by
      intro e
      rw [e] at e2
      simp only [List.length_nil] at e2
      omega)
    rw [lis_cons]
    have eA : (lisD A).length = A.length := lis_len A
    unfold b4__law_tightened
    simp -implicitDefEqProofs only [wp_bnd, wp_ret, wp_lift, wpV_some, wpV_none, wpV_ite, wpV_map, wp_stop, wp_ite, wp_mC, wp_mV, wp_mMove, wp_peek, wp_setS, wp_chk, wp_chg', wp_mCall, wp_mCallR, wp_sAug, wp_sAugI, wp_sSeq, wp_mComp, wp_run_nm, wp_run_ex, wp_get_nm, wp_get_ex, wp_mUn, wp_mBin, wp_runs_nil, wp_runs_cons, wp_gets_nil, wp_gets_cons, wp_mFn, wp_it_nil, wp_it_one, wp_it_star, wp_mTup, wp_mLst, wp_mT, wp_mNot, wp_mAnd, wp_mOr, wp_mBl, wp_asT, wp_mAndV, wp_mOrV, wp_mNotB, wp_mIf, wp_mYes, wp_itSeq, wp_itRng, wp_itEnum, wp_itZip, wp_lstRng, wp_tupRng, wp_part_none, wp_part_some, wp_mSl, wp_put_nm, wp_put_tup, wp_putAll_nil, wp_putAll_cons, wp_sNx, wp_sSet, wp_sPut, wp_temps_nil, wp_temps_cons, wp_setAll_nil, wp_setAll_cons, wp_sPar, wp_sDrop, wp_sRet, wp_sIf, wp_sFor, wp_sItem, wp_sApp, wp_sIns, wp_turn1, dat_fz, dat_ow, truth_int, truth_bool, truth_list, truth_tup, asBool_bool, intOf_int, seqOf_list, seqOf_tup, add_int, add_tup, add_list, sub_int, mul_int, mul_tup, mul_list, mod_int, fdiv_int, neg_int, lt_int, le_int, gt_int, ge_int, eq_int, ne_int, is_non, isnot_non, isNon, sl_list, sl_tup, len_list, len_tup, int_int, abs_int, max_2, max_3, min_2, min_3, tuple_list, tuple_tup, list_list, list_tup, app_D, ins_D, oIx_list, oIx_tup, getAt_0, getAt_1, getAt_2, getAt_3, putAt_0, putAt_1, putAt_2, ite_and, if_true, if_false, Bool.false_eq_true, ↓reduceIte, List.getElem?_cons_zero, List.getElem?_cons_succ, List.set_cons_zero, List.set_cons_succ, List.length_cons, List.length_nil, List.length_set, isOw_ow, isOw_fz, isOw_none, Nat.reduceAdd, Nat.reduceLT, Nat.reduceEqDiff, Nat.reduceSub, Int.reduceLT, Int.reduceLE, true_and, and_true, List.map_cons, List.map_nil, List.append_nil, List.nil_append, List.cons_append, List.replicate, wipeR, restore, noOw, List.all_cons, List.all_nil, Bool.not_false, Bool.not_true, Bool.and_true, Bool.and_self, szOk, Nat.reduceLeDiff, Option.getD_some, Option.getD_none, decide_eq_true_eq, Nat.zero_add, out0, List.length_map, getAt_mid (show (j : Int) - 1 = ((lisD A).length : Int) by omega), getAt_mid1 (show (j : Int) = ((lisD A).length : Int) + 1 by omega), h5]
    refine wp_compZ (ea := PyData.int) (eb := PyData.int) (fun a b => [.int (max a b)]) (fun a b _ => ?_) ?_
    · simp -implicitDefEqProofs only [wp_bnd, wp_ret, wp_lift, wpV_some, wpV_none, wpV_ite, wpV_map, wp_stop, wp_ite, wp_mC, wp_mV, wp_mMove, wp_peek, wp_setS, wp_chk, wp_chg', wp_mCall, wp_mCallR, wp_sAug, wp_sAugI, wp_sSeq, wp_mComp, wp_run_nm, wp_run_ex, wp_get_nm, wp_get_ex, wp_mUn, wp_mBin, wp_runs_nil, wp_runs_cons, wp_gets_nil, wp_gets_cons, wp_mFn, wp_it_nil, wp_it_one, wp_it_star, wp_mTup, wp_mLst, wp_mT, wp_mNot, wp_mAnd, wp_mOr, wp_mBl, wp_asT, wp_mAndV, wp_mOrV, wp_mNotB, wp_mIf, wp_mYes, wp_itSeq, wp_itRng, wp_itEnum, wp_itZip, wp_lstRng, wp_tupRng, wp_part_none, wp_part_some, wp_mSl, wp_put_nm, wp_put_tup, wp_putAll_nil, wp_putAll_cons, wp_sNx, wp_sSet, wp_sPut, wp_temps_nil, wp_temps_cons, wp_setAll_nil, wp_setAll_cons, wp_sPar, wp_sDrop, wp_sRet, wp_sIf, wp_sFor, wp_sItem, wp_sApp, wp_sIns, wp_turn1, dat_fz, dat_ow, truth_int, truth_bool, truth_list, truth_tup, asBool_bool, intOf_int, seqOf_list, seqOf_tup, add_int, add_tup, add_list, sub_int, mul_int, mul_tup, mul_list, mod_int, fdiv_int, neg_int, lt_int, le_int, gt_int, ge_int, eq_int, ne_int, is_non, isnot_non, isNon, sl_list, sl_tup, len_list, len_tup, int_int, abs_int, max_2, max_3, min_2, min_3, tuple_list, tuple_tup, list_list, list_tup, app_D, ins_D, oIx_list, oIx_tup, getAt_0, getAt_1, getAt_2, getAt_3, putAt_0, putAt_1, putAt_2, ite_and, if_true, if_false, Bool.false_eq_true, ↓reduceIte, List.getElem?_cons_zero, List.getElem?_cons_succ, List.set_cons_zero, List.set_cons_succ, List.length_cons, List.length_nil, List.length_set, isOw_ow, isOw_fz, isOw_none, Nat.reduceAdd, Nat.reduceLT, Nat.reduceEqDiff, Nat.reduceSub, Int.reduceLT, Int.reduceLE, true_and, and_true, List.map_cons, List.map_nil, List.append_nil, List.nil_append, List.cons_append, List.replicate, wipeR, restore, noOw, List.all_cons, List.all_nil, Bool.not_false, Bool.not_true, Bool.and_true, Bool.and_self, szOk, Nat.reduceLeDiff, Option.getD_some, Option.getD_none, decide_eq_true_eq, Nat.zero_add, out0, List.length_map]
    · simp -implicitDefEqProofs only [wp_bnd, wp_ret, wp_lift, wpV_some, wpV_none, wpV_ite, wpV_map, wp_stop, wp_ite, wp_mC, wp_mV, wp_mMove, wp_peek, wp_setS, wp_chk, wp_chg', wp_mCall, wp_mCallR, wp_sAug, wp_sAugI, wp_sSeq, wp_mComp, wp_run_nm, wp_run_ex, wp_get_nm, wp_get_ex, wp_mUn, wp_mBin, wp_runs_nil, wp_runs_cons, wp_gets_nil, wp_gets_cons, wp_mFn, wp_it_nil, wp_it_one, wp_it_star, wp_mTup, wp_mLst, wp_mT, wp_mNot, wp_mAnd, wp_mOr, wp_mBl, wp_asT, wp_mAndV, wp_mOrV, wp_mNotB, wp_mIf, wp_mYes, wp_itSeq, wp_itRng, wp_itEnum, wp_itZip, wp_lstRng, wp_tupRng, wp_part_none, wp_part_some, wp_mSl, wp_put_nm, wp_put_tup, wp_putAll_nil, wp_putAll_cons, wp_sNx, wp_sSet, wp_sPut, wp_temps_nil, wp_temps_cons, wp_setAll_nil, wp_setAll_cons, wp_sPar, wp_sDrop, wp_sRet, wp_sIf, wp_sFor, wp_sItem, wp_sApp, wp_sIns, wp_turn1, dat_fz, dat_ow, truth_int, truth_bool, truth_list, truth_tup, asBool_bool, intOf_int, seqOf_list, seqOf_tup, add_int, add_tup, add_list, sub_int, mul_int, mul_tup, mul_list, mod_int, fdiv_int, neg_int, lt_int, le_int, gt_int, ge_int, eq_int, ne_int, is_non, isnot_non, isNon, sl_list, sl_tup, len_list, len_tup, int_int, abs_int, max_2, max_3, min_2, min_3, tuple_list, tuple_tup, list_list, list_tup, app_D, ins_D, oIx_list, oIx_tup, getAt_0, getAt_1, getAt_2, getAt_3, putAt_0, putAt_1, putAt_2, ite_and, if_true, if_false, Bool.false_eq_true, ↓reduceIte, List.getElem?_cons_zero, List.getElem?_cons_succ, List.set_cons_zero, List.set_cons_succ, List.length_cons, List.length_nil, List.length_set, isOw_ow, isOw_fz, isOw_none, Nat.reduceAdd, Nat.reduceLT, Nat.reduceEqDiff, Nat.reduceSub, Int.reduceLT, Int.reduceLE, true_and, and_true, List.map_cons, List.map_nil, List.append_nil, List.nil_append, List.cons_append, List.replicate, wipeR, restore, noOw, List.all_cons, List.all_nil, Bool.not_false, Bool.not_true, Bool.and_true, Bool.and_self, szOk, Nat.reduceLeDiff, Option.getD_some, Option.getD_none, decide_eq_true_eq, Nat.zero_add, out0, List.length_map, flat1i, mx_comm, putAt_mid1 (show (j : Int) = ((lisD A).length : Int) + 1 by omega)]
      refine ⟨A ++ [p], mx p w, rest, some (.fz (.int (j : Int))), by simp only [List.length_append, List.length_cons, List.length_nil]; omega, by simp only [List.length_cons] at e2; omega, by rw [List.append_assoc]; exact e3, ?_⟩
      rw [lis_app, List.append_assoc]
      rfl
  · obtain ⟨A, p, rest, x12, e1, e2, e3, rfl⟩ := h
    have er : rest = [] := List.eq_nil_of_length_eq_zero (by
      rw [List.length_cons] at lenW
      omega)
    subst er
    have := fin x12
    rw [← e3, lis_app] at this
    exact this
theorem lt_down {U : List (List Int)} {M x5 x7 x8 x9 x10 x11 x12 : Option Val} {n : Nat} {Q : Fl → Rho → Prop} (lenU : U.length = n + 1) (lenS : ss.length = n + 1) (h5 : isOw (some x5) = false)
    (fin : ∀ x12 x13, Q .nx [R, some (.fz (tupI ss)), F, M, some (.ow (lisD (dnP ss U))), x5, none, x7, x8, x9, x10, x11, x12, x13]) :
    wp (forL (.nm 12) b5__law_tightened ((List.range n).reverse.map fun (k : Nat) => PyData.int (k : Int))) [R, some (.fz (tupI ss)), F, M, some (.ow (lisD U)), x5, none, x7, x8, x9, x10, x11, x12, none] Q := by
  refine wp_down (fun j ρ => ∃ A' B SA SB v vs x12 x13, A'.length = j ∧ SA.length = j ∧ A' ++ B = U ∧ SA ++ SB = ss ∧ B ≠ [] ∧ SB ≠ [] ∧ dnP SB B = v :: vs ∧
    ρ = [R, some (.fz (tupI ss)), F, M, some (.ow (lisD A' ++ lisI v :: lisD vs)), x5, none, x7, x8, x9, x10, x11, x12, x13]) (fun j ρ hj h => ?_) (fun ρ h => ?_) ?_
  · obtain ⟨A1, B, SA, SB, v, vs, x12, x13, l1, l2, e4, e5, hB, hSB, e6, rfl⟩ := h
    obtain ⟨A', w, rfl, l3⟩ := snoc_of l1
    obtain ⟨SA', s, rfl, l4⟩ := snoc_of l2
    obtain ⟨w', B', rfl⟩ := List.exists_cons_of_ne_nil hB
    obtain ⟨s', SB', rfl⟩ := List.exists_cons_of_ne_nil hSB
    have lA : (lisD A').length = j := by rw [lis_len]; exact l3
    have lS : (intsD SA').length = j := by rw [List.length_map]; exact l4
    have eS : intsD ss = intsD SA' ++ PyData.int s :: PyData.int s' :: intsD SB' := by
      rw [← e5, List.append_assoc, ints_app]; rfl
    have eW : lisD (A' ++ [w]) ++ lisI v :: lisD vs = lisD A' ++ lisI w :: lisI v :: lisD vs := by
      rw [lis_app, List.append_assoc]; rfl
    rw [eW]
    unfold b5__law_tightened
    simp -implicitDefEqProofs only [wp_bnd, wp_ret, wp_lift, wpV_some, wpV_none, wpV_ite, wpV_map, wp_stop, wp_ite, wp_mC, wp_mV, wp_mMove, wp_peek, wp_setS, wp_chk, wp_chg', wp_mCall, wp_mCallR, wp_sAug, wp_sAugI, wp_sSeq, wp_mComp, wp_run_nm, wp_run_ex, wp_get_nm, wp_get_ex, wp_mUn, wp_mBin, wp_runs_nil, wp_runs_cons, wp_gets_nil, wp_gets_cons, wp_mFn, wp_it_nil, wp_it_one, wp_it_star, wp_mTup, wp_mLst, wp_mT, wp_mNot, wp_mAnd, wp_mOr, wp_mBl, wp_asT, wp_mAndV, wp_mOrV, wp_mNotB, wp_mIf, wp_mYes, wp_itSeq, wp_itRng, wp_itEnum, wp_itZip, wp_lstRng, wp_tupRng, wp_part_none, wp_part_some, wp_mSl, wp_put_nm, wp_put_tup, wp_putAll_nil, wp_putAll_cons, wp_sNx, wp_sSet, wp_sPut, wp_temps_nil, wp_temps_cons, wp_setAll_nil, wp_setAll_cons, wp_sPar, wp_sDrop, wp_sRet, wp_sIf, wp_sFor, wp_sItem, wp_sApp, wp_sIns, wp_turn1, dat_fz, dat_ow, truth_int, truth_bool, truth_list, truth_tup, asBool_bool, intOf_int, seqOf_list, seqOf_tup, add_int, add_tup, add_list, sub_int, mul_int, mul_tup, mul_list, mod_int, fdiv_int, neg_int, lt_int, le_int, gt_int, ge_int, eq_int, ne_int, is_non, isnot_non, isNon, sl_list, sl_tup, len_list, len_tup, int_int, abs_int, max_2, max_3, min_2, min_3, tuple_list, tuple_tup, list_list, list_tup, app_D, ins_D, oIx_list, oIx_tup, getAt_0, getAt_1, getAt_2, getAt_3, putAt_0, putAt_1, putAt_2, ite_and, if_true, if_false, Bool.false_eq_true, ↓reduceIte, List.getElem?_cons_zero, List.getElem?_cons_succ, List.set_cons_zero, List.set_cons_succ, List.length_cons, List.length_nil, List.length_set, isOw_ow, isOw_fz, isOw_none, Nat.reduceAdd, Nat.reduceLT, Nat.reduceEqDiff, Nat.reduceSub, Int.reduceLT, Int.reduceLE, true_and, and_true, List.map_cons, List.map_nil, List.append_nil, List.nil_append, List.cons_append, List.replicate, wipeR, restore, noOw, List.all_cons, List.all_nil, Bool.not_false, Bool.not_true, Bool.and_true, Bool.and_self, szOk, Nat.reduceLeDiff, Option.getD_some, Option.getD_none, decide_eq_true_eq, Nat.zero_add, out0, List.length_map, eS, getAt_mid (show (j : Int) = ((intsD SA').length : Int) by omega), getAt_mid1 (show (j : Int) + 1 = ((intsD SA').length : Int) + 1 by omega), getAt_mid (show (j : Int) = ((lisD A').length : Int) by omega), getAt_mid1 (show (j : Int) + 1 = ((lisD A').length : Int) + 1 by omega), h5]
    refine wp_compZ (ea := PyData.int) (eb := PyData.int) (fun a b => [.int (max a (b - (s' - s)))]) (fun a b _ => ?_) ?_
    · simp -implicitDefEqProofs only [wp_bnd, wp_ret, wp_lift, wpV_some, wpV_none, wpV_ite, wpV_map, wp_stop, wp_ite, wp_mC, wp_mV, wp_mMove, wp_peek, wp_setS, wp_chk, wp_chg', wp_mCall, wp_mCallR, wp_sAug, wp_sAugI, wp_sSeq, wp_mComp, wp_run_nm, wp_run_ex, wp_get_nm, wp_get_ex, wp_mUn, wp_mBin, wp_runs_nil, wp_runs_cons, wp_gets_nil, wp_gets_cons, wp_mFn, wp_it_nil, wp_it_one, wp_it_star, wp_mTup, wp_mLst, wp_mT, wp_mNot, wp_mAnd, wp_mOr, wp_mBl, wp_asT, wp_mAndV, wp_mOrV, wp_mNotB, wp_mIf, wp_mYes, wp_itSeq, wp_itRng, wp_itEnum, wp_itZip, wp_lstRng, wp_tupRng, wp_part_none, wp_part_some, wp_mSl, wp_put_nm, wp_put_tup, wp_putAll_nil, wp_putAll_cons, wp_sNx, wp_sSet, wp_sPut, wp_temps_nil, wp_temps_cons, wp_setAll_nil, wp_setAll_cons, wp_sPar, wp_sDrop, wp_sRet, wp_sIf, wp_sFor, wp_sItem, wp_sApp, wp_sIns, wp_turn1, dat_fz, dat_ow, truth_int, truth_bool, truth_list, truth_tup, asBool_bool, intOf_int, seqOf_list, seqOf_tup, add_int, add_tup, add_list, sub_int, mul_int, mul_tup, mul_list, mod_int, fdiv_int, neg_int, lt_int, le_int, gt_int, ge_int, eq_int, ne_int, is_non, isnot_non, isNon, sl_list, sl_tup, len_list, len_tup, int_int, abs_int, max_2, max_3, min_2, min_3, tuple_list, tuple_tup, list_list, list_tup, app_D, ins_D, oIx_list, oIx_tup, getAt_0, getAt_1, getAt_2, getAt_3, putAt_0, putAt_1, putAt_2, ite_and, if_true, if_false, Bool.false_eq_true, ↓reduceIte, List.getElem?_cons_zero, List.getElem?_cons_succ, List.set_cons_zero, List.set_cons_succ, List.length_cons, List.length_nil, List.length_set, isOw_ow, isOw_fz, isOw_none, Nat.reduceAdd, Nat.reduceLT, Nat.reduceEqDiff, Nat.reduceSub, Int.reduceLT, Int.reduceLE, true_and, and_true, List.map_cons, List.map_nil, List.append_nil, List.nil_append, List.cons_append, List.replicate, wipeR, restore, noOw, List.all_cons, List.all_nil, Bool.not_false, Bool.not_true, Bool.and_true, Bool.and_self, szOk, Nat.reduceLeDiff, Option.getD_some, Option.getD_none, decide_eq_true_eq, Nat.zero_add, out0, List.length_map]
    · simp -implicitDefEqProofs only [wp_bnd, wp_ret, wp_lift, wpV_some, wpV_none, wpV_ite, wpV_map, wp_stop, wp_ite, wp_mC, wp_mV, wp_mMove, wp_peek, wp_setS, wp_chk, wp_chg', wp_mCall, wp_mCallR, wp_sAug, wp_sAugI, wp_sSeq, wp_mComp, wp_run_nm, wp_run_ex, wp_get_nm, wp_get_ex, wp_mUn, wp_mBin, wp_runs_nil, wp_runs_cons, wp_gets_nil, wp_gets_cons, wp_mFn, wp_it_nil, wp_it_one, wp_it_star, wp_mTup, wp_mLst, wp_mT, wp_mNot, wp_mAnd, wp_mOr, wp_mBl, wp_asT, wp_mAndV, wp_mOrV, wp_mNotB, wp_mIf, wp_mYes, wp_itSeq, wp_itRng, wp_itEnum, wp_itZip, wp_lstRng, wp_tupRng, wp_part_none, wp_part_some, wp_mSl, wp_put_nm, wp_put_tup, wp_putAll_nil, wp_putAll_cons, wp_sNx, wp_sSet, wp_sPut, wp_temps_nil, wp_temps_cons, wp_setAll_nil, wp_setAll_cons, wp_sPar, wp_sDrop, wp_sRet, wp_sIf, wp_sFor, wp_sItem, wp_sApp, wp_sIns, wp_turn1, dat_fz, dat_ow, truth_int, truth_bool, truth_list, truth_tup, asBool_bool, intOf_int, seqOf_list, seqOf_tup, add_int, add_tup, add_list, sub_int, mul_int, mul_tup, mul_list, mod_int, fdiv_int, neg_int, lt_int, le_int, gt_int, ge_int, eq_int, ne_int, is_non, isnot_non, isNon, sl_list, sl_tup, len_list, len_tup, int_int, abs_int, max_2, max_3, min_2, min_3, tuple_list, tuple_tup, list_list, list_tup, app_D, ins_D, oIx_list, oIx_tup, getAt_0, getAt_1, getAt_2, getAt_3, putAt_0, putAt_1, putAt_2, ite_and, if_true, if_false, Bool.false_eq_true, ↓reduceIte, List.getElem?_cons_zero, List.getElem?_cons_succ, List.set_cons_zero, List.set_cons_succ, List.length_cons, List.length_nil, List.length_set, isOw_ow, isOw_fz, isOw_none, Nat.reduceAdd, Nat.reduceLT, Nat.reduceEqDiff, Nat.reduceSub, Int.reduceLT, Int.reduceLE, true_and, and_true, List.map_cons, List.map_nil, List.append_nil, List.nil_append, List.cons_append, List.replicate, wipeR, restore, noOw, List.all_cons, List.all_nil, Bool.not_false, Bool.not_true, Bool.and_true, Bool.and_self, szOk, Nat.reduceLeDiff, Option.getD_some, Option.getD_none, decide_eq_true_eq, Nat.zero_add, out0, List.length_map, flat1i, putAt_mid (show (j : Int) = ((lisD A').length : Int) by omega)]
      exact ⟨A', w :: w' :: B', SA', s :: s' :: SB', mxg (s' - s) w v, v :: vs, some (.fz (.int (j : Int))), some (.fz (.int (s' - s))), l3, l4, by rw [← e4, List.append_assoc]; rfl, by rw [← e5, List.append_assoc]; rfl, by simp, by simp, dnP_cons _ _ _ _ _ _ e6, rfl⟩
  · obtain ⟨A1, B, SA, SB, v, vs, x12, x13, l1, l2, e4, e5, hB, hSB, e6, rfl⟩ := h
    have : A1 = [] := List.eq_nil_of_length_eq_zero l1
    subst this
    have : SA = [] := List.eq_nil_of_length_eq_zero l2
    subst this
    have := fin x12 x13
    rw [← e4, List.nil_append, ← e5, List.nil_append, e6] at this
    rw [← e5, List.nil_append]
    exact this
  · obtain ⟨A, w, rfl, lA⟩ := snoc_of lenU
    obtain ⟨SA, s, rfl, lS⟩ := snoc_of lenS
    exact ⟨A, [w], SA, [s], w, [], x12, none, lA, lS, rfl, rfl, by simp, by simp, dnP_one s w, by rw [lis_app]; rfl⟩
theorem lt_check {V : List (List Int)} {M x5 x7 x8 x9 x10 x11 x12 x13 : Option Val} {Q : Fl → Rho → Prop} (h5 : isOw (some x5) = false) (h9 : isOw (some x9) = false) (h11 : isOw (some x11) = false)
    (yes : okP V ss = true → ∀ x5 x8 x9 x11, isOw (some x9) = false → Q .nx [R, S, F, M, some (.fz (.list (lisD V))), x5, none, x7, x8, x9, x10, x11, x12, x13])
    (no : okP V ss = false → ∀ ρ, Q (.rt (.fz .none)) ρ) :
    wp (forL (.tup [(.nm 9), (.nm 8)]) b6__law_tightened (zipL (lisD V) (intsD ss))) [R, S, F, M, some (.fz (.list (lisD V))), x5, none, x7, x8, x9, x10, x11, x12, x13] Q := by
  refine wp_zip (ea := lisI) (eb := PyData.int) (fun xs ys ρ => okP V ss = okP xs ys ∧ ∃ x5 x8 x9 x11, isOw (some x5) = false ∧ isOw (some x9) = false ∧ isOw (some x11) = false ∧ ρ = [R, S, F, M, some (.fz (.list (lisD V))), x5, none, x7, x8, x9, x10, x11, x12, x13]) (fun x xs y ys ρ h => ?_) (fun xs ys ρ hn h => ?_) ⟨rfl, _, _, _, _, h5, h9, h11, rfl⟩
  · obtain ⟨hk, x5, x8, x9, x11, h5, h9, h11, rfl⟩ := h
    unfold b6__law_tightened
    simp -implicitDefEqProofs only [wp_bnd, wp_ret, wp_lift, wpV_some, wpV_none, wpV_ite, wpV_map, wp_stop, wp_ite, wp_mC, wp_mV, wp_mMove, wp_peek, wp_setS, wp_chk, wp_chg', wp_mCall, wp_mCallR, wp_sAug, wp_sAugI, wp_sSeq, wp_mComp, wp_run_nm, wp_run_ex, wp_get_nm, wp_get_ex, wp_mUn, wp_mBin, wp_runs_nil, wp_runs_cons, wp_gets_nil, wp_gets_cons, wp_mFn, wp_it_nil, wp_it_one, wp_it_star, wp_mTup, wp_mLst, wp_mT, wp_mNot, wp_mAnd, wp_mOr, wp_mBl, wp_asT, wp_mAndV, wp_mOrV, wp_mNotB, wp_mIf, wp_mYes, wp_itSeq, wp_itRng, wp_itEnum, wp_itZip, wp_lstRng, wp_tupRng, wp_part_none, wp_part_some, wp_mSl, wp_put_nm, wp_put_tup, wp_putAll_nil, wp_putAll_cons, wp_sNx, wp_sSet, wp_sPut, wp_temps_nil, wp_temps_cons, wp_setAll_nil, wp_setAll_cons, wp_sPar, wp_sDrop, wp_sRet, wp_sIf, wp_sFor, wp_sItem, wp_sApp, wp_sIns, wp_turn1, dat_fz, dat_ow, truth_int, truth_bool, truth_list, truth_tup, asBool_bool, intOf_int, seqOf_list, seqOf_tup, add_int, add_tup, add_list, sub_int, mul_int, mul_tup, mul_list, mod_int, fdiv_int, neg_int, lt_int, le_int, gt_int, ge_int, eq_int, ne_int, is_non, isnot_non, isNon, sl_list, sl_tup, len_list, len_tup, int_int, abs_int, max_2, max_3, min_2, min_3, tuple_list, tuple_tup, list_list, list_tup, app_D, ins_D, oIx_list, oIx_tup, getAt_0, getAt_1, getAt_2, getAt_3, putAt_0, putAt_1, putAt_2, ite_and, if_true, if_false, Bool.false_eq_true, ↓reduceIte, List.getElem?_cons_zero, List.getElem?_cons_succ, List.set_cons_zero, List.set_cons_succ, List.length_cons, List.length_nil, List.length_set, isOw_ow, isOw_fz, isOw_none, Nat.reduceAdd, Nat.reduceLT, Nat.reduceEqDiff, Nat.reduceSub, Int.reduceLT, Int.reduceLE, true_and, and_true, List.map_cons, List.map_nil, List.append_nil, List.nil_append, List.cons_append, List.replicate, wipeR, restore, noOw, List.all_cons, List.all_nil, Bool.not_false, Bool.not_true, Bool.and_true, Bool.and_self, szOk, Nat.reduceLeDiff, Option.getD_some, Option.getD_none, decide_eq_true_eq, Nat.zero_add, out0, List.length_map, h5, h11]
    refine wp_compE (ea := PyData.int) (fun a k => if min (k : Int) y < a then [.int 1] else []) (fun a k _ => ?_) ?_
    · simp -implicitDefEqProofs only [wp_bnd, wp_ret, wp_lift, wpV_some, wpV_none, wpV_ite, wpV_map, wp_stop, wp_ite, wp_mC, wp_mV, wp_mMove, wp_peek, wp_setS, wp_chk, wp_chg', wp_mCall, wp_mCallR, wp_sAug, wp_sAugI, wp_sSeq, wp_mComp, wp_run_nm, wp_run_ex, wp_get_nm, wp_get_ex, wp_mUn, wp_mBin, wp_runs_nil, wp_runs_cons, wp_gets_nil, wp_gets_cons, wp_mFn, wp_it_nil, wp_it_one, wp_it_star, wp_mTup, wp_mLst, wp_mT, wp_mNot, wp_mAnd, wp_mOr, wp_mBl, wp_asT, wp_mAndV, wp_mOrV, wp_mNotB, wp_mIf, wp_mYes, wp_itSeq, wp_itRng, wp_itEnum, wp_itZip, wp_lstRng, wp_tupRng, wp_part_none, wp_part_some, wp_mSl, wp_put_nm, wp_put_tup, wp_putAll_nil, wp_putAll_cons, wp_sNx, wp_sSet, wp_sPut, wp_temps_nil, wp_temps_cons, wp_setAll_nil, wp_setAll_cons, wp_sPar, wp_sDrop, wp_sRet, wp_sIf, wp_sFor, wp_sItem, wp_sApp, wp_sIns, wp_turn1, dat_fz, dat_ow, truth_int, truth_bool, truth_list, truth_tup, asBool_bool, intOf_int, seqOf_list, seqOf_tup, add_int, add_tup, add_list, sub_int, mul_int, mul_tup, mul_list, mod_int, fdiv_int, neg_int, lt_int, le_int, gt_int, ge_int, eq_int, ne_int, is_non, isnot_non, isNon, sl_list, sl_tup, len_list, len_tup, int_int, abs_int, max_2, max_3, min_2, min_3, tuple_list, tuple_tup, list_list, list_tup, app_D, ins_D, oIx_list, oIx_tup, getAt_0, getAt_1, getAt_2, getAt_3, putAt_0, putAt_1, putAt_2, ite_and, if_true, if_false, Bool.false_eq_true, ↓reduceIte, List.getElem?_cons_zero, List.getElem?_cons_succ, List.set_cons_zero, List.set_cons_succ, List.length_cons, List.length_nil, List.length_set, isOw_ow, isOw_fz, isOw_none, Nat.reduceAdd, Nat.reduceLT, Nat.reduceEqDiff, Nat.reduceSub, Int.reduceLT, Int.reduceLE, true_and, and_true, List.map_cons, List.map_nil, List.append_nil, List.nil_append, List.cons_append, List.replicate, wipeR, restore, noOw, List.all_cons, List.all_nil, Bool.not_false, Bool.not_true, Bool.and_true, Bool.and_self, szOk, Nat.reduceLeDiff, Option.getD_some, Option.getD_none, decide_eq_true_eq, Nat.zero_add, out0, List.length_map]
      by_cases c : min (k : Int) y < a
      · simp only [if_pos c]
      · simp only [if_neg c]
    · simp -implicitDefEqProofs only [wp_bnd, wp_ret, wp_lift, wpV_some, wpV_none, wpV_ite, wpV_map, wp_stop, wp_ite, wp_mC, wp_mV, wp_mMove, wp_peek, wp_setS, wp_chk, wp_chg', wp_mCall, wp_mCallR, wp_sAug, wp_sAugI, wp_sSeq, wp_mComp, wp_run_nm, wp_run_ex, wp_get_nm, wp_get_ex, wp_mUn, wp_mBin, wp_runs_nil, wp_runs_cons, wp_gets_nil, wp_gets_cons, wp_mFn, wp_it_nil, wp_it_one, wp_it_star, wp_mTup, wp_mLst, wp_mT, wp_mNot, wp_mAnd, wp_mOr, wp_mBl, wp_asT, wp_mAndV, wp_mOrV, wp_mNotB, wp_mIf, wp_mYes, wp_itSeq, wp_itRng, wp_itEnum, wp_itZip, wp_lstRng, wp_tupRng, wp_part_none, wp_part_some, wp_mSl, wp_put_nm, wp_put_tup, wp_putAll_nil, wp_putAll_cons, wp_sNx, wp_sSet, wp_sPut, wp_temps_nil, wp_temps_cons, wp_setAll_nil, wp_setAll_cons, wp_sPar, wp_sDrop, wp_sRet, wp_sIf, wp_sFor, wp_sItem, wp_sApp, wp_sIns, wp_turn1, dat_fz, dat_ow, truth_int, truth_bool, truth_list, truth_tup, asBool_bool, intOf_int, seqOf_list, seqOf_tup, add_int, add_tup, add_list, sub_int, mul_int, mul_tup, mul_list, mod_int, fdiv_int, neg_int, lt_int, le_int, gt_int, ge_int, eq_int, ne_int, is_non, isnot_non, isNon, sl_list, sl_tup, len_list, len_tup, int_int, abs_int, max_2, max_3, min_2, min_3, tuple_list, tuple_tup, list_list, list_tup, app_D, ins_D, oIx_list, oIx_tup, getAt_0, getAt_1, getAt_2, getAt_3, putAt_0, putAt_1, putAt_2, ite_and, if_true, if_false, Bool.false_eq_true, ↓reduceIte, List.getElem?_cons_zero, List.getElem?_cons_succ, List.set_cons_zero, List.set_cons_succ, List.length_cons, List.length_nil, List.length_set, isOw_ow, isOw_fz, isOw_none, Nat.reduceAdd, Nat.reduceLT, Nat.reduceEqDiff, Nat.reduceSub, Int.reduceLT, Int.reduceLE, true_and, and_true, List.map_cons, List.map_nil, List.append_nil, List.nil_append, List.cons_append, List.replicate, wipeR, restore, noOw, List.all_cons, List.all_nil, Bool.not_false, Bool.not_true, Bool.and_true, Bool.and_self, szOk, Nat.reduceLeDiff, Option.getD_some, Option.getD_none, decide_eq_true_eq, Nat.zero_add, out0, List.length_map, ne_nil, flat_if]
      cases hw : okW x y with
      | false =>
        have hz : (x.zipIdx.any fun a => decide (min (a.2 : Int) y < a.1)) = true := by
          have : (!(x.zipIdx.any fun a => decide (min (a.2 : Int) y < a.1))) = false := hw
          simpa using this
        rw [hz]
        simp -implicitDefEqProofs only [wp_bnd, wp_ret, wp_lift, wpV_some, wpV_none, wpV_ite, wpV_map, wp_stop, wp_ite, wp_mC, wp_mV, wp_mMove, wp_peek, wp_setS, wp_chk, wp_chg', wp_mCall, wp_mCallR, wp_sAug, wp_sAugI, wp_sSeq, wp_mComp, wp_run_nm, wp_run_ex, wp_get_nm, wp_get_ex, wp_mUn, wp_mBin, wp_runs_nil, wp_runs_cons, wp_gets_nil, wp_gets_cons, wp_mFn, wp_it_nil, wp_it_one, wp_it_star, wp_mTup, wp_mLst, wp_mT, wp_mNot, wp_mAnd, wp_mOr, wp_mBl, wp_asT, wp_mAndV, wp_mOrV, wp_mNotB, wp_mIf, wp_mYes, wp_itSeq, wp_itRng, wp_itEnum, wp_itZip, wp_lstRng, wp_tupRng, wp_part_none, wp_part_some, wp_mSl, wp_put_nm, wp_put_tup, wp_putAll_nil, wp_putAll_cons, wp_sNx, wp_sSet, wp_sPut, wp_temps_nil, wp_temps_cons, wp_setAll_nil, wp_setAll_cons, wp_sPar, wp_sDrop, wp_sRet, wp_sIf, wp_sFor, wp_sItem, wp_sApp, wp_sIns, wp_turn1, dat_fz, dat_ow, truth_int, truth_bool, truth_list, truth_tup, asBool_bool, intOf_int, seqOf_list, seqOf_tup, add_int, add_tup, add_list, sub_int, mul_int, mul_tup, mul_list, mod_int, fdiv_int, neg_int, lt_int, le_int, gt_int, ge_int, eq_int, ne_int, is_non, isnot_non, isNon, sl_list, sl_tup, len_list, len_tup, int_int, abs_int, max_2, max_3, min_2, min_3, tuple_list, tuple_tup, list_list, list_tup, app_D, ins_D, oIx_list, oIx_tup, getAt_0, getAt_1, getAt_2, getAt_3, putAt_0, putAt_1, putAt_2, ite_and, if_true, if_false, Bool.false_eq_true, ↓reduceIte, List.getElem?_cons_zero, List.getElem?_cons_succ, List.set_cons_zero, List.set_cons_succ, List.length_cons, List.length_nil, List.length_set, isOw_ow, isOw_fz, isOw_none, Nat.reduceAdd, Nat.reduceLT, Nat.reduceEqDiff, Nat.reduceSub, Int.reduceLT, Int.reduceLE, true_and, and_true, List.map_cons, List.map_nil, List.append_nil, List.nil_append, List.cons_append, List.replicate, wipeR, restore, noOw, List.all_cons, List.all_nil, Bool.not_false, Bool.not_true, Bool.and_true, Bool.and_self, szOk, Nat.reduceLeDiff, Option.getD_some, Option.getD_none, decide_eq_true_eq, Nat.zero_add, out0, List.length_map]
        exact no (by
          rw [hk]
          show (okW x y && okP xs ys) = false
          rw [hw]; rfl) _
      | true =>
        have hz : (x.zipIdx.any fun a => decide (min (a.2 : Int) y < a.1)) = false := by
          have : (!(x.zipIdx.any fun a => decide (min (a.2 : Int) y < a.1))) = true := hw
          simpa using this
        rw [hz]
        simp -implicitDefEqProofs only [wp_bnd, wp_ret, wp_lift, wpV_some, wpV_none, wpV_ite, wpV_map, wp_stop, wp_ite, wp_mC, wp_mV, wp_mMove, wp_peek, wp_setS, wp_chk, wp_chg', wp_mCall, wp_mCallR, wp_sAug, wp_sAugI, wp_sSeq, wp_mComp, wp_run_nm, wp_run_ex, wp_get_nm, wp_get_ex, wp_mUn, wp_mBin, wp_runs_nil, wp_runs_cons, wp_gets_nil, wp_gets_cons, wp_mFn, wp_it_nil, wp_it_one, wp_it_star, wp_mTup, wp_mLst, wp_mT, wp_mNot, wp_mAnd, wp_mOr, wp_mBl, wp_asT, wp_mAndV, wp_mOrV, wp_mNotB, wp_mIf, wp_mYes, wp_itSeq, wp_itRng, wp_itEnum, wp_itZip, wp_lstRng, wp_tupRng, wp_part_none, wp_part_some, wp_mSl, wp_put_nm, wp_put_tup, wp_putAll_nil, wp_putAll_cons, wp_sNx, wp_sSet, wp_sPut, wp_temps_nil, wp_temps_cons, wp_setAll_nil, wp_setAll_cons, wp_sPar, wp_sDrop, wp_sRet, wp_sIf, wp_sFor, wp_sItem, wp_sApp, wp_sIns, wp_turn1, dat_fz, dat_ow, truth_int, truth_bool, truth_list, truth_tup, asBool_bool, intOf_int, seqOf_list, seqOf_tup, add_int, add_tup, add_list, sub_int, mul_int, mul_tup, mul_list, mod_int, fdiv_int, neg_int, lt_int, le_int, gt_int, ge_int, eq_int, ne_int, is_non, isnot_non, isNon, sl_list, sl_tup, len_list, len_tup, int_int, abs_int, max_2, max_3, min_2, min_3, tuple_list, tuple_tup, list_list, list_tup, app_D, ins_D, oIx_list, oIx_tup, getAt_0, getAt_1, getAt_2, getAt_3, putAt_0, putAt_1, putAt_2, ite_and, if_true, if_false, Bool.false_eq_true, ↓reduceIte, List.getElem?_cons_zero, List.getElem?_cons_succ, List.set_cons_zero, List.set_cons_succ, List.length_cons, List.length_nil, List.length_set, isOw_ow, isOw_fz, isOw_none, Nat.reduceAdd, Nat.reduceLT, Nat.reduceEqDiff, Nat.reduceSub, Int.reduceLT, Int.reduceLE, true_and, and_true, List.map_cons, List.map_nil, List.append_nil, List.nil_append, List.cons_append, List.replicate, wipeR, restore, noOw, List.all_cons, List.all_nil, Bool.not_false, Bool.not_true, Bool.and_true, Bool.and_self, szOk, Nat.reduceLeDiff, Option.getD_some, Option.getD_none, decide_eq_true_eq, Nat.zero_add, out0, List.length_map]
        refine ⟨?_, _, _, _, _, h5, rfl, h11, rfl⟩
        rw [hk]
        show (okW x y && okP xs ys) = okP xs ys
        rw [hw]; rfl
  · obtain ⟨hk, x5, x8, x9, x11, h5, h9, h11, rfl⟩ := h
    refine yes ?_ _ _ _ _ h9
    rw [hk]
    rcases hn with e | e <;> subst e
    · rfl
    · cases xs <;> rfl
end
end FW
namespace FW
open PySem FK
theorem lawT_ok (rows : List (List Int)) (ss : List Int) (m : Nat) (h0 : rows ≠ []) (hl : rows.length = ss.length) (h1 : rows.length ≤ 1000) (hm : m ≤ 1000) (h2 : Len m rows) :
    wpF (e__law_tightened.f [.fz (rowsD rows), .fz (tupI ss)]) fun v _ => v = noneOr (tightP rows ss) := by
  rw [← lawT_eq h0 hl h2]
  obtain ⟨r, rs, rfl⟩ := List.exists_cons_of_ne_nil h0
  have er := h2 r (List.mem_cons_self ..)
  have hss : ss ≠ [] := by
    intro e
    rw [e] at hl
    cases hl
  obtain ⟨n, hn⟩ : ∃ n, ss.length = n + 1 := ⟨ss.length - 1, by
    have := List.length_pos_iff.mpr hss
    omega⟩
  have hn3 : n ≤ 1000000 := by omega
  have hn4 : n + 1 ≤ 1000000 := by omega
  have el : (rs.length + 1 : Nat) = n + 1 := by rw [← hn, ← hl]; rfl
  have em0 : ((m + 1 : Nat) : Int) - 1 = (m : Int) := by omega
  have em : (((n + 1 : Nat) : Int) - 2) = (n : Int) - 1 := by omega
  have sz : 0 + 1 + (n + 1) ≤ 16777216 := by omega
  show wpF (fnOf 14 m__law_tightened _) _
  rw [wpF_fnOf]
  unfold m__law_tightened
  simp -implicitDefEqProofs only [wp_bnd, wp_ret, wp_lift, wpV_some, wpV_none, wpV_ite, wpV_map, wp_stop, wp_ite, wp_mC, wp_mV, wp_mMove, wp_peek, wp_setS, wp_chk, wp_chg', wp_mCall, wp_mCallR, wp_sAug, wp_sAugI, wp_sSeq, wp_mComp, wp_run_nm, wp_run_ex, wp_get_nm, wp_get_ex, wp_mUn, wp_mBin, wp_runs_nil, wp_runs_cons, wp_gets_nil, wp_gets_cons, wp_mFn, wp_it_nil, wp_it_one, wp_it_star, wp_mTup, wp_mLst, wp_mT, wp_mNot, wp_mAnd, wp_mOr, wp_mBl, wp_asT, wp_mAndV, wp_mOrV, wp_mNotB, wp_mIf, wp_mYes, wp_itSeq, wp_itRng, wp_itEnum, wp_itZip, wp_lstRng, wp_tupRng, wp_part_none, wp_part_some, wp_mSl, wp_put_nm, wp_put_tup, wp_putAll_nil, wp_putAll_cons, wp_sNx, wp_sSet, wp_sPut, wp_temps_nil, wp_temps_cons, wp_setAll_nil, wp_setAll_cons, wp_sPar, wp_sDrop, wp_sRet, wp_sIf, wp_sFor, wp_sItem, wp_sApp, wp_sIns, wp_turn1, dat_fz, dat_ow, truth_int, truth_bool, truth_list, truth_tup, asBool_bool, intOf_int, seqOf_list, seqOf_tup, add_int, add_tup, add_list, sub_int, mul_int, mul_tup, mul_list, mod_int, fdiv_int, neg_int, lt_int, le_int, gt_int, ge_int, eq_int, ne_int, is_non, isnot_non, isNon, sl_list, sl_tup, len_list, len_tup, int_int, abs_int, max_2, max_3, min_2, min_3, tuple_list, tuple_tup, list_list, list_tup, app_D, ins_D, oIx_list, oIx_tup, getAt_0, getAt_1, getAt_2, getAt_3, putAt_0, putAt_1, putAt_2, ite_and, if_true, if_false, Bool.false_eq_true, ↓reduceIte, List.getElem?_cons_zero, List.getElem?_cons_succ, List.set_cons_zero, List.set_cons_succ, List.length_cons, List.length_nil, List.length_set, isOw_ow, isOw_fz, isOw_none, Nat.reduceAdd, Nat.reduceLT, Nat.reduceEqDiff, Nat.reduceSub, Int.reduceLT, Int.reduceLE, true_and, and_true, List.map_cons, List.map_nil, List.append_nil, List.nil_append, List.cons_append, List.replicate, wipeR, restore, noOw, List.all_cons, List.all_nil, Bool.not_false, Bool.not_true, Bool.and_true, Bool.and_self, szOk, Nat.reduceLeDiff, Option.getD_some, Option.getD_none, decide_eq_true_eq, Nat.zero_add, out0, List.length_map, er, em0, hn, el, sz]
  refine wp_compZ (ea := PyData.int) (eb := PyData.int) (xs := 0 :: ss) (ys := ss) (fun a b => if b < a then [.int 1] else []) (fun a b _ => ?_) ?_
  · simp -implicitDefEqProofs only [wp_bnd, wp_ret, wp_lift, wpV_some, wpV_none, wpV_ite, wpV_map, wp_stop, wp_ite, wp_mC, wp_mV, wp_mMove, wp_peek, wp_setS, wp_chk, wp_chg', wp_mCall, wp_mCallR, wp_sAug, wp_sAugI, wp_sSeq, wp_mComp, wp_run_nm, wp_run_ex, wp_get_nm, wp_get_ex, wp_mUn, wp_mBin, wp_runs_nil, wp_runs_cons, wp_gets_nil, wp_gets_cons, wp_mFn, wp_it_nil, wp_it_one, wp_it_star, wp_mTup, wp_mLst, wp_mT, wp_mNot, wp_mAnd, wp_mOr, wp_mBl, wp_asT, wp_mAndV, wp_mOrV, wp_mNotB, wp_mIf, wp_mYes, wp_itSeq, wp_itRng, wp_itEnum, wp_itZip, wp_lstRng, wp_tupRng, wp_part_none, wp_part_some, wp_mSl, wp_put_nm, wp_put_tup, wp_putAll_nil, wp_putAll_cons, wp_sNx, wp_sSet, wp_sPut, wp_temps_nil, wp_temps_cons, wp_setAll_nil, wp_setAll_cons, wp_sPar, wp_sDrop, wp_sRet, wp_sIf, wp_sFor, wp_sItem, wp_sApp, wp_sIns, wp_turn1, dat_fz, dat_ow, truth_int, truth_bool, truth_list, truth_tup, asBool_bool, intOf_int, seqOf_list, seqOf_tup, add_int, add_tup, add_list, sub_int, mul_int, mul_tup, mul_list, mod_int, fdiv_int, neg_int, lt_int, le_int, gt_int, ge_int, eq_int, ne_int, is_non, isnot_non, isNon, sl_list, sl_tup, len_list, len_tup, int_int, abs_int, max_2, max_3, min_2, min_3, tuple_list, tuple_tup, list_list, list_tup, app_D, ins_D, oIx_list, oIx_tup, getAt_0, getAt_1, getAt_2, getAt_3, putAt_0, putAt_1, putAt_2, ite_and, if_true, if_false, Bool.false_eq_true, ↓reduceIte, List.getElem?_cons_zero, List.getElem?_cons_succ, List.set_cons_zero, List.set_cons_succ, List.length_cons, List.length_nil, List.length_set, isOw_ow, isOw_fz, isOw_none, Nat.reduceAdd, Nat.reduceLT, Nat.reduceEqDiff, Nat.reduceSub, Int.reduceLT, Int.reduceLE, true_and, and_true, List.map_cons, List.map_nil, List.append_nil, List.nil_append, List.cons_append, List.replicate, wipeR, restore, noOw, List.all_cons, List.all_nil, Bool.not_false, Bool.not_true, Bool.and_true, Bool.and_self, szOk, Nat.reduceLeDiff, Option.getD_some, Option.getD_none, decide_eq_true_eq, Nat.zero_add, out0, List.length_map]
    by_cases c : b < a
    · simp only [if_pos c]
    · simp only [if_neg c]
  · simp -implicitDefEqProofs only [wp_bnd, wp_ret, wp_lift, wpV_some, wpV_none, wpV_ite, wpV_map, wp_stop, wp_ite, wp_mC, wp_mV, wp_mMove, wp_peek, wp_setS, wp_chk, wp_chg', wp_mCall, wp_mCallR, wp_sAug, wp_sAugI, wp_sSeq, wp_mComp, wp_run_nm, wp_run_ex, wp_get_nm, wp_get_ex, wp_mUn, wp_mBin, wp_runs_nil, wp_runs_cons, wp_gets_nil, wp_gets_cons, wp_mFn, wp_it_nil, wp_it_one, wp_it_star, wp_mTup, wp_mLst, wp_mT, wp_mNot, wp_mAnd, wp_mOr, wp_mBl, wp_asT, wp_mAndV, wp_mOrV, wp_mNotB, wp_mIf, wp_mYes, wp_itSeq, wp_itRng, wp_itEnum, wp_itZip, wp_lstRng, wp_tupRng, wp_part_none, wp_part_some, wp_mSl, wp_put_nm, wp_put_tup, wp_putAll_nil, wp_putAll_cons, wp_sNx, wp_sSet, wp_sPut, wp_temps_nil, wp_temps_cons, wp_setAll_nil, wp_setAll_cons, wp_sPar, wp_sDrop, wp_sRet, wp_sIf, wp_sFor, wp_sItem, wp_sApp, wp_sIns, wp_turn1, dat_fz, dat_ow, truth_int, truth_bool, truth_list, truth_tup, asBool_bool, intOf_int, seqOf_list, seqOf_tup, add_int, add_tup, add_list, sub_int, mul_int, mul_tup, mul_list, mod_int, fdiv_int, neg_int, lt_int, le_int, gt_int, ge_int, eq_int, ne_int, is_non, isnot_non, isNon, sl_list, sl_tup, len_list, len_tup, int_int, abs_int, max_2, max_3, min_2, min_3, tuple_list, tuple_tup, list_list, list_tup, app_D, ins_D, oIx_list, oIx_tup, getAt_0, getAt_1, getAt_2, getAt_3, putAt_0, putAt_1, putAt_2, ite_and, if_true, if_false, Bool.false_eq_true, ↓reduceIte, List.getElem?_cons_zero, List.getElem?_cons_succ, List.set_cons_zero, List.set_cons_succ, List.length_cons, List.length_nil, List.length_set, isOw_ow, isOw_fz, isOw_none, Nat.reduceAdd, Nat.reduceLT, Nat.reduceEqDiff, Nat.reduceSub, Int.reduceLT, Int.reduceLE, true_and, and_true, List.map_cons, List.map_nil, List.append_nil, List.nil_append, List.cons_append, List.replicate, wipeR, restore, noOw, List.all_cons, List.all_nil, Bool.not_false, Bool.not_true, Bool.and_true, Bool.and_self, szOk, Nat.reduceLeDiff, Option.getD_some, Option.getD_none, decide_eq_true_eq, Nat.zero_add, out0, List.length_map, ne_nil, flat_if]
    cases hd : downB ss with
    | true =>
      have hd' : (((0 : Int) :: ss).zip ss).any (fun q => decide (q.2 < q.1)) = true := hd
      rw [hd']
      simp -implicitDefEqProofs only [wp_bnd, wp_ret, wp_lift, wpV_some, wpV_none, wpV_ite, wpV_map, wp_stop, wp_ite, wp_mC, wp_mV, wp_mMove, wp_peek, wp_setS, wp_chk, wp_chg', wp_mCall, wp_mCallR, wp_sAug, wp_sAugI, wp_sSeq, wp_mComp, wp_run_nm, wp_run_ex, wp_get_nm, wp_get_ex, wp_mUn, wp_mBin, wp_runs_nil, wp_runs_cons, wp_gets_nil, wp_gets_cons, wp_mFn, wp_it_nil, wp_it_one, wp_it_star, wp_mTup, wp_mLst, wp_mT, wp_mNot, wp_mAnd, wp_mOr, wp_mBl, wp_asT, wp_mAndV, wp_mOrV, wp_mNotB, wp_mIf, wp_mYes, wp_itSeq, wp_itRng, wp_itEnum, wp_itZip, wp_lstRng, wp_tupRng, wp_part_none, wp_part_some, wp_mSl, wp_put_nm, wp_put_tup, wp_putAll_nil, wp_putAll_cons, wp_sNx, wp_sSet, wp_sPut, wp_temps_nil, wp_temps_cons, wp_setAll_nil, wp_setAll_cons, wp_sPar, wp_sDrop, wp_sRet, wp_sIf, wp_sFor, wp_sItem, wp_sApp, wp_sIns, wp_turn1, dat_fz, dat_ow, truth_int, truth_bool, truth_list, truth_tup, asBool_bool, intOf_int, seqOf_list, seqOf_tup, add_int, add_tup, add_list, sub_int, mul_int, mul_tup, mul_list, mod_int, fdiv_int, neg_int, lt_int, le_int, gt_int, ge_int, eq_int, ne_int, is_non, isnot_non, isNon, sl_list, sl_tup, len_list, len_tup, int_int, abs_int, max_2, max_3, min_2, min_3, tuple_list, tuple_tup, list_list, list_tup, app_D, ins_D, oIx_list, oIx_tup, getAt_0, getAt_1, getAt_2, getAt_3, putAt_0, putAt_1, putAt_2, ite_and, if_true, if_false, Bool.false_eq_true, ↓reduceIte, List.getElem?_cons_zero, List.getElem?_cons_succ, List.set_cons_zero, List.set_cons_succ, List.length_cons, List.length_nil, List.length_set, isOw_ow, isOw_fz, isOw_none, Nat.reduceAdd, Nat.reduceLT, Nat.reduceEqDiff, Nat.reduceSub, Int.reduceLT, Int.reduceLE, true_and, and_true, List.map_cons, List.map_nil, List.append_nil, List.nil_append, List.cons_append, List.replicate, wipeR, restore, noOw, List.all_cons, List.all_nil, Bool.not_false, Bool.not_true, Bool.and_true, Bool.and_self, szOk, Nat.reduceLeDiff, Option.getD_some, Option.getD_none, decide_eq_true_eq, Nat.zero_add, out0, List.length_map]
      show Val.fz .none = noneOr (lawT (r :: rs) ss)
      unfold lawT
      rw [hd]
      rfl
    | false =>
      have hd' : (((0 : Int) :: ss).zip ss).any (fun q => decide (q.2 < q.1)) = false := hd
      rw [hd']
      simp -implicitDefEqProofs only [wp_bnd, wp_ret, wp_lift, wpV_some, wpV_none, wpV_ite, wpV_map, wp_stop, wp_ite, wp_mC, wp_mV, wp_mMove, wp_peek, wp_setS, wp_chk, wp_chg', wp_mCall, wp_mCallR, wp_sAug, wp_sAugI, wp_sSeq, wp_mComp, wp_run_nm, wp_run_ex, wp_get_nm, wp_get_ex, wp_mUn, wp_mBin, wp_runs_nil, wp_runs_cons, wp_gets_nil, wp_gets_cons, wp_mFn, wp_it_nil, wp_it_one, wp_it_star, wp_mTup, wp_mLst, wp_mT, wp_mNot, wp_mAnd, wp_mOr, wp_mBl, wp_asT, wp_mAndV, wp_mOrV, wp_mNotB, wp_mIf, wp_mYes, wp_itSeq, wp_itRng, wp_itEnum, wp_itZip, wp_lstRng, wp_tupRng, wp_part_none, wp_part_some, wp_mSl, wp_put_nm, wp_put_tup, wp_putAll_nil, wp_putAll_cons, wp_sNx, wp_sSet, wp_sPut, wp_temps_nil, wp_temps_cons, wp_setAll_nil, wp_setAll_cons, wp_sPar, wp_sDrop, wp_sRet, wp_sIf, wp_sFor, wp_sItem, wp_sApp, wp_sIns, wp_turn1, dat_fz, dat_ow, truth_int, truth_bool, truth_list, truth_tup, asBool_bool, intOf_int, seqOf_list, seqOf_tup, add_int, add_tup, add_list, sub_int, mul_int, mul_tup, mul_list, mod_int, fdiv_int, neg_int, lt_int, le_int, gt_int, ge_int, eq_int, ne_int, is_non, isnot_non, isNon, sl_list, sl_tup, len_list, len_tup, int_int, abs_int, max_2, max_3, min_2, min_3, tuple_list, tuple_tup, list_list, list_tup, app_D, ins_D, oIx_list, oIx_tup, getAt_0, getAt_1, getAt_2, getAt_3, putAt_0, putAt_1, putAt_2, ite_and, if_true, if_false, Bool.false_eq_true, ↓reduceIte, List.getElem?_cons_zero, List.getElem?_cons_succ, List.set_cons_zero, List.set_cons_succ, List.length_cons, List.length_nil, List.length_set, isOw_ow, isOw_fz, isOw_none, Nat.reduceAdd, Nat.reduceLT, Nat.reduceEqDiff, Nat.reduceSub, Int.reduceLT, Int.reduceLE, true_and, and_true, List.map_cons, List.map_nil, List.append_nil, List.nil_append, List.cons_append, List.replicate, wipeR, restore, noOw, List.all_cons, List.all_nil, Bool.not_false, Bool.not_true, Bool.and_true, Bool.and_self, szOk, Nat.reduceLeDiff, Option.getD_some, Option.getD_none, decide_eq_true_eq, Nat.zero_add, out0, List.length_map]
      refine wp_zip (ea := tupI) (eb := PyData.int) (xs := r :: rs) (ys := ss) (fun xs ys ρ => ∃ A x5 x7 x8 x9 x10 x11, isOw (some x5) = false ∧ isOw (some x9) = false ∧ isOw (some x11) = false ∧ Len m xs ∧ xs.length = ys.length ∧ A.length + ys.length = ss.length ∧
        A ++ stepsP xs ys = stepsP (r :: rs) ss ∧ ρ = [some (.fz (rowsD (r :: rs))), some (.fz (tupI ss)), some (.fz (.int ((n + 1 : Nat) : Int))), some (.fz (.int (m : Int))), some (.ow (lisD A)), x5, none, x7, x8, x9, x10, x11, none, none]) (fun x xs y ys ρ h => ?_) (fun xs ys ρ hz h => ?_) ⟨[], none, none, none, none, none, none, rfl, rfl, rfl, h2, hl, by simp, rfl, rfl⟩
      · obtain ⟨A, x5, x7, x8, x9, x10, x11, h5, h9, h11, hL, hxy, hA, hst, rfl⟩ := h
        simp -implicitDefEqProofs only [wp_bnd, wp_ret, wp_lift, wpV_some, wpV_none, wpV_ite, wpV_map, wp_stop, wp_ite, wp_mC, wp_mV, wp_mMove, wp_peek, wp_setS, wp_chk, wp_chg', wp_mCall, wp_mCallR, wp_sAug, wp_sAugI, wp_sSeq, wp_mComp, wp_run_nm, wp_run_ex, wp_get_nm, wp_get_ex, wp_mUn, wp_mBin, wp_runs_nil, wp_runs_cons, wp_gets_nil, wp_gets_cons, wp_mFn, wp_it_nil, wp_it_one, wp_it_star, wp_mTup, wp_mLst, wp_mT, wp_mNot, wp_mAnd, wp_mOr, wp_mBl, wp_asT, wp_mAndV, wp_mOrV, wp_mNotB, wp_mIf, wp_mYes, wp_itSeq, wp_itRng, wp_itEnum, wp_itZip, wp_lstRng, wp_tupRng, wp_part_none, wp_part_some, wp_mSl, wp_put_nm, wp_put_tup, wp_putAll_nil, wp_putAll_cons, wp_sNx, wp_sSet, wp_sPut, wp_temps_nil, wp_temps_cons, wp_setAll_nil, wp_setAll_cons, wp_sPar, wp_sDrop, wp_sRet, wp_sIf, wp_sFor, wp_sItem, wp_sApp, wp_sIns, wp_turn1, dat_fz, dat_ow, truth_int, truth_bool, truth_list, truth_tup, asBool_bool, intOf_int, seqOf_list, seqOf_tup, add_int, add_tup, add_list, sub_int, mul_int, mul_tup, mul_list, mod_int, fdiv_int, neg_int, lt_int, le_int, gt_int, ge_int, eq_int, ne_int, is_non, isnot_non, isNon, sl_list, sl_tup, len_list, len_tup, int_int, abs_int, max_2, max_3, min_2, min_3, tuple_list, tuple_tup, list_list, list_tup, app_D, ins_D, oIx_list, oIx_tup, getAt_0, getAt_1, getAt_2, getAt_3, putAt_0, putAt_1, putAt_2, ite_and, if_true, if_false, Bool.false_eq_true, ↓reduceIte, List.getElem?_cons_zero, List.getElem?_cons_succ, List.set_cons_zero, List.set_cons_succ, List.length_cons, List.length_nil, List.length_set, isOw_ow, isOw_fz, isOw_none, Nat.reduceAdd, Nat.reduceLT, Nat.reduceEqDiff, Nat.reduceSub, Int.reduceLT, Int.reduceLE, true_and, and_true, List.map_cons, List.map_nil, List.append_nil, List.nil_append, List.cons_append, List.replicate, wipeR, restore, noOw, List.all_cons, List.all_nil, Bool.not_false, Bool.not_true, Bool.and_true, Bool.and_self, szOk, Nat.reduceLeDiff, Option.getD_some, Option.getD_none, decide_eq_true_eq, Nat.zero_add, out0, List.length_map]
        refine lt_row (hL x (List.mem_cons_self ..)) hm (by rw [lis_len]; omega) (fun x5 x10 x11 h5 h11 => ?_) h5 h11
        refine ⟨A ++ [stepP x y], x5, _, _, _, x10, x11, h5, rfl, h11, fun w hw => hL w (List.mem_cons_of_mem _ hw), Nat.succ.inj hxy, ?_, ?_, by rw [lis_app]; rfl⟩
        · simp only [List.length_append, List.length_cons, List.length_nil] at hA ⊢; omega
        · rw [List.append_assoc]; exact hst
      · obtain ⟨A, x5, x7, x8, x9, x10, x11, h5, h9, h11, hL, hxy, hA, hst, rfl⟩ := h
        have hx : xs = [] ∧ ys = [] := by
          rcases hz with e | e
          · subst e
            exact ⟨rfl, List.eq_nil_of_length_eq_zero hxy.symm⟩
          · subst e
            exact ⟨List.eq_nil_of_length_eq_zero hxy, rfl⟩
        have hst' : stepsP (r :: rs) ss = A := by
          rw [← hst, hx.1]
          exact List.append_nil A
        have lenA : A.length = ss.length := by
          rw [hx.2] at hA
          exact hA
        have hA0 : A ≠ [] := by
          intro e
          rw [e] at lenA
          exact hss (List.eq_nil_of_length_eq_zero lenA.symm)
        have e7 : wordsP (r :: rs) ss = dnP ss (upP A) := by
          show dnP ss (upP (stepsP (r :: rs) ss)) = _
          rw [hst']
        have lenU : (upP A).length = n + 1 := by rw [upP_len, lenA, hn]
        have et : lawT (r :: rs) ss = if okP (wordsP (r :: rs) ss) ss = true then some (wordsP (r :: rs) ss) else none := by
          unfold lawT
          rw [hd]
          rfl
        simp -implicitDefEqProofs only [wp_bnd, wp_ret, wp_lift, wpV_some, wpV_none, wpV_ite, wpV_map, wp_stop, wp_ite, wp_mC, wp_mV, wp_mMove, wp_peek, wp_setS, wp_chk, wp_chg', wp_mCall, wp_mCallR, wp_sAug, wp_sAugI, wp_sSeq, wp_mComp, wp_run_nm, wp_run_ex, wp_get_nm, wp_get_ex, wp_mUn, wp_mBin, wp_runs_nil, wp_runs_cons, wp_gets_nil, wp_gets_cons, wp_mFn, wp_it_nil, wp_it_one, wp_it_star, wp_mTup, wp_mLst, wp_mT, wp_mNot, wp_mAnd, wp_mOr, wp_mBl, wp_asT, wp_mAndV, wp_mOrV, wp_mNotB, wp_mIf, wp_mYes, wp_itSeq, wp_itRng, wp_itEnum, wp_itZip, wp_lstRng, wp_tupRng, wp_part_none, wp_part_some, wp_mSl, wp_put_nm, wp_put_tup, wp_putAll_nil, wp_putAll_cons, wp_sNx, wp_sSet, wp_sPut, wp_temps_nil, wp_temps_cons, wp_setAll_nil, wp_setAll_cons, wp_sPar, wp_sDrop, wp_sRet, wp_sIf, wp_sFor, wp_sItem, wp_sApp, wp_sIns, wp_turn1, dat_fz, dat_ow, truth_int, truth_bool, truth_list, truth_tup, asBool_bool, intOf_int, seqOf_list, seqOf_tup, add_int, add_tup, add_list, sub_int, mul_int, mul_tup, mul_list, mod_int, fdiv_int, neg_int, lt_int, le_int, gt_int, ge_int, eq_int, ne_int, is_non, isnot_non, isNon, sl_list, sl_tup, len_list, len_tup, int_int, abs_int, max_2, max_3, min_2, min_3, tuple_list, tuple_tup, list_list, list_tup, app_D, ins_D, oIx_list, oIx_tup, getAt_0, getAt_1, getAt_2, getAt_3, putAt_0, putAt_1, putAt_2, ite_and, if_true, if_false, Bool.false_eq_true, ↓reduceIte, List.getElem?_cons_zero, List.getElem?_cons_succ, List.set_cons_zero, List.set_cons_succ, List.length_cons, List.length_nil, List.length_set, isOw_ow, isOw_fz, isOw_none, Nat.reduceAdd, Nat.reduceLT, Nat.reduceEqDiff, Nat.reduceSub, Int.reduceLT, Int.reduceLE, true_and, and_true, List.map_cons, List.map_nil, List.append_nil, List.nil_append, List.cons_append, List.replicate, wipeR, restore, noOw, List.all_cons, List.all_nil, Bool.not_false, Bool.not_true, Bool.and_true, Bool.and_self, szOk, Nat.reduceLeDiff, Option.getD_some, Option.getD_none, decide_eq_true_eq, Nat.zero_add, out0, List.length_map, rng_from1 hn4]
        refine lt_up (lenA.trans hn) hA0 h5 fun x12 => ?_
        simp -implicitDefEqProofs only [wp_bnd, wp_ret, wp_lift, wpV_some, wpV_none, wpV_ite, wpV_map, wp_stop, wp_ite, wp_mC, wp_mV, wp_mMove, wp_peek, wp_setS, wp_chk, wp_chg', wp_mCall, wp_mCallR, wp_sAug, wp_sAugI, wp_sSeq, wp_mComp, wp_run_nm, wp_run_ex, wp_get_nm, wp_get_ex, wp_mUn, wp_mBin, wp_runs_nil, wp_runs_cons, wp_gets_nil, wp_gets_cons, wp_mFn, wp_it_nil, wp_it_one, wp_it_star, wp_mTup, wp_mLst, wp_mT, wp_mNot, wp_mAnd, wp_mOr, wp_mBl, wp_asT, wp_mAndV, wp_mOrV, wp_mNotB, wp_mIf, wp_mYes, wp_itSeq, wp_itRng, wp_itEnum, wp_itZip, wp_lstRng, wp_tupRng, wp_part_none, wp_part_some, wp_mSl, wp_put_nm, wp_put_tup, wp_putAll_nil, wp_putAll_cons, wp_sNx, wp_sSet, wp_sPut, wp_temps_nil, wp_temps_cons, wp_setAll_nil, wp_setAll_cons, wp_sPar, wp_sDrop, wp_sRet, wp_sIf, wp_sFor, wp_sItem, wp_sApp, wp_sIns, wp_turn1, dat_fz, dat_ow, truth_int, truth_bool, truth_list, truth_tup, asBool_bool, intOf_int, seqOf_list, seqOf_tup, add_int, add_tup, add_list, sub_int, mul_int, mul_tup, mul_list, mod_int, fdiv_int, neg_int, lt_int, le_int, gt_int, ge_int, eq_int, ne_int, is_non, isnot_non, isNon, sl_list, sl_tup, len_list, len_tup, int_int, abs_int, max_2, max_3, min_2, min_3, tuple_list, tuple_tup, list_list, list_tup, app_D, ins_D, oIx_list, oIx_tup, getAt_0, getAt_1, getAt_2, getAt_3, putAt_0, putAt_1, putAt_2, ite_and, if_true, if_false, Bool.false_eq_true, ↓reduceIte, List.getElem?_cons_zero, List.getElem?_cons_succ, List.set_cons_zero, List.set_cons_succ, List.length_cons, List.length_nil, List.length_set, isOw_ow, isOw_fz, isOw_none, Nat.reduceAdd, Nat.reduceLT, Nat.reduceEqDiff, Nat.reduceSub, Int.reduceLT, Int.reduceLE, true_and, and_true, List.map_cons, List.map_nil, List.append_nil, List.nil_append, List.cons_append, List.replicate, wipeR, restore, noOw, List.all_cons, List.all_nil, Bool.not_false, Bool.not_true, Bool.and_true, Bool.and_self, szOk, Nat.reduceLeDiff, Option.getD_some, Option.getD_none, decide_eq_true_eq, Nat.zero_add, out0, List.length_map, em, rngOf3 hn3]
        refine lt_down lenU hn h5 fun x12 x13 => ?_
        rw [← e7]
        simp -implicitDefEqProofs only [wp_bnd, wp_ret, wp_lift, wpV_some, wpV_none, wpV_ite, wpV_map, wp_stop, wp_ite, wp_mC, wp_mV, wp_mMove, wp_peek, wp_setS, wp_chk, wp_chg', wp_mCall, wp_mCallR, wp_sAug, wp_sAugI, wp_sSeq, wp_mComp, wp_run_nm, wp_run_ex, wp_get_nm, wp_get_ex, wp_mUn, wp_mBin, wp_runs_nil, wp_runs_cons, wp_gets_nil, wp_gets_cons, wp_mFn, wp_it_nil, wp_it_one, wp_it_star, wp_mTup, wp_mLst, wp_mT, wp_mNot, wp_mAnd, wp_mOr, wp_mBl, wp_asT, wp_mAndV, wp_mOrV, wp_mNotB, wp_mIf, wp_mYes, wp_itSeq, wp_itRng, wp_itEnum, wp_itZip, wp_lstRng, wp_tupRng, wp_part_none, wp_part_some, wp_mSl, wp_put_nm, wp_put_tup, wp_putAll_nil, wp_putAll_cons, wp_sNx, wp_sSet, wp_sPut, wp_temps_nil, wp_temps_cons, wp_setAll_nil, wp_setAll_cons, wp_sPar, wp_sDrop, wp_sRet, wp_sIf, wp_sFor, wp_sItem, wp_sApp, wp_sIns, wp_turn1, dat_fz, dat_ow, truth_int, truth_bool, truth_list, truth_tup, asBool_bool, intOf_int, seqOf_list, seqOf_tup, add_int, add_tup, add_list, sub_int, mul_int, mul_tup, mul_list, mod_int, fdiv_int, neg_int, lt_int, le_int, gt_int, ge_int, eq_int, ne_int, is_non, isnot_non, isNon, sl_list, sl_tup, len_list, len_tup, int_int, abs_int, max_2, max_3, min_2, min_3, tuple_list, tuple_tup, list_list, list_tup, app_D, ins_D, oIx_list, oIx_tup, getAt_0, getAt_1, getAt_2, getAt_3, putAt_0, putAt_1, putAt_2, ite_and, if_true, if_false, Bool.false_eq_true, ↓reduceIte, List.getElem?_cons_zero, List.getElem?_cons_succ, List.set_cons_zero, List.set_cons_succ, List.length_cons, List.length_nil, List.length_set, isOw_ow, isOw_fz, isOw_none, Nat.reduceAdd, Nat.reduceLT, Nat.reduceEqDiff, Nat.reduceSub, Int.reduceLT, Int.reduceLE, true_and, and_true, List.map_cons, List.map_nil, List.append_nil, List.nil_append, List.cons_append, List.replicate, wipeR, restore, noOw, List.all_cons, List.all_nil, Bool.not_false, Bool.not_true, Bool.and_true, Bool.and_self, szOk, Nat.reduceLeDiff, Option.getD_some, Option.getD_none, decide_eq_true_eq, Nat.zero_add, out0, List.length_map]
        refine lt_check h5 h9 h11 (fun hk x5 x8 x9 x11 h9 => ?_) fun hk ρ => ?_
        · simp -implicitDefEqProofs only [wp_bnd, wp_ret, wp_lift, wpV_some, wpV_none, wpV_ite, wpV_map, wp_stop, wp_ite, wp_mC, wp_mV, wp_mMove, wp_peek, wp_setS, wp_chk, wp_chg', wp_mCall, wp_mCallR, wp_sAug, wp_sAugI, wp_sSeq, wp_mComp, wp_run_nm, wp_run_ex, wp_get_nm, wp_get_ex, wp_mUn, wp_mBin, wp_runs_nil, wp_runs_cons, wp_gets_nil, wp_gets_cons, wp_mFn, wp_it_nil, wp_it_one, wp_it_star, wp_mTup, wp_mLst, wp_mT, wp_mNot, wp_mAnd, wp_mOr, wp_mBl, wp_asT, wp_mAndV, wp_mOrV, wp_mNotB, wp_mIf, wp_mYes, wp_itSeq, wp_itRng, wp_itEnum, wp_itZip, wp_lstRng, wp_tupRng, wp_part_none, wp_part_some, wp_mSl, wp_put_nm, wp_put_tup, wp_putAll_nil, wp_putAll_cons, wp_sNx, wp_sSet, wp_sPut, wp_temps_nil, wp_temps_cons, wp_setAll_nil, wp_setAll_cons, wp_sPar, wp_sDrop, wp_sRet, wp_sIf, wp_sFor, wp_sItem, wp_sApp, wp_sIns, wp_turn1, dat_fz, dat_ow, truth_int, truth_bool, truth_list, truth_tup, asBool_bool, intOf_int, seqOf_list, seqOf_tup, add_int, add_tup, add_list, sub_int, mul_int, mul_tup, mul_list, mod_int, fdiv_int, neg_int, lt_int, le_int, gt_int, ge_int, eq_int, ne_int, is_non, isnot_non, isNon, sl_list, sl_tup, len_list, len_tup, int_int, abs_int, max_2, max_3, min_2, min_3, tuple_list, tuple_tup, list_list, list_tup, app_D, ins_D, oIx_list, oIx_tup, getAt_0, getAt_1, getAt_2, getAt_3, putAt_0, putAt_1, putAt_2, ite_and, if_true, if_false, Bool.false_eq_true, ↓reduceIte, List.getElem?_cons_zero, List.getElem?_cons_succ, List.set_cons_zero, List.set_cons_succ, List.length_cons, List.length_nil, List.length_set, isOw_ow, isOw_fz, isOw_none, Nat.reduceAdd, Nat.reduceLT, Nat.reduceEqDiff, Nat.reduceSub, Int.reduceLT, Int.reduceLE, true_and, and_true, List.map_cons, List.map_nil, List.append_nil, List.nil_append, List.cons_append, List.replicate, wipeR, restore, noOw, List.all_cons, List.all_nil, Bool.not_false, Bool.not_true, Bool.and_true, Bool.and_self, szOk, Nat.reduceLeDiff, Option.getD_some, Option.getD_none, decide_eq_true_eq, Nat.zero_add, out0, List.length_map, h9, lisD]
          refine wp_compP (enc := lisI) (g := fun w => [tupI w]) (fun w _ => ?_) ?_
          · simp -implicitDefEqProofs only [wp_bnd, wp_ret, wp_lift, wpV_some, wpV_none, wpV_ite, wpV_map, wp_stop, wp_ite, wp_mC, wp_mV, wp_mMove, wp_peek, wp_setS, wp_chk, wp_chg', wp_mCall, wp_mCallR, wp_sAug, wp_sAugI, wp_sSeq, wp_mComp, wp_run_nm, wp_run_ex, wp_get_nm, wp_get_ex, wp_mUn, wp_mBin, wp_runs_nil, wp_runs_cons, wp_gets_nil, wp_gets_cons, wp_mFn, wp_it_nil, wp_it_one, wp_it_star, wp_mTup, wp_mLst, wp_mT, wp_mNot, wp_mAnd, wp_mOr, wp_mBl, wp_asT, wp_mAndV, wp_mOrV, wp_mNotB, wp_mIf, wp_mYes, wp_itSeq, wp_itRng, wp_itEnum, wp_itZip, wp_lstRng, wp_tupRng, wp_part_none, wp_part_some, wp_mSl, wp_put_nm, wp_put_tup, wp_putAll_nil, wp_putAll_cons, wp_sNx, wp_sSet, wp_sPut, wp_temps_nil, wp_temps_cons, wp_setAll_nil, wp_setAll_cons, wp_sPar, wp_sDrop, wp_sRet, wp_sIf, wp_sFor, wp_sItem, wp_sApp, wp_sIns, wp_turn1, dat_fz, dat_ow, truth_int, truth_bool, truth_list, truth_tup, asBool_bool, intOf_int, seqOf_list, seqOf_tup, add_int, add_tup, add_list, sub_int, mul_int, mul_tup, mul_list, mod_int, fdiv_int, neg_int, lt_int, le_int, gt_int, ge_int, eq_int, ne_int, is_non, isnot_non, isNon, sl_list, sl_tup, len_list, len_tup, int_int, abs_int, max_2, max_3, min_2, min_3, tuple_list, tuple_tup, list_list, list_tup, app_D, ins_D, oIx_list, oIx_tup, getAt_0, getAt_1, getAt_2, getAt_3, putAt_0, putAt_1, putAt_2, ite_and, if_true, if_false, Bool.false_eq_true, ↓reduceIte, List.getElem?_cons_zero, List.getElem?_cons_succ, List.set_cons_zero, List.set_cons_succ, List.length_cons, List.length_nil, List.length_set, isOw_ow, isOw_fz, isOw_none, Nat.reduceAdd, Nat.reduceLT, Nat.reduceEqDiff, Nat.reduceSub, Int.reduceLT, Int.reduceLE, true_and, and_true, List.map_cons, List.map_nil, List.append_nil, List.nil_append, List.cons_append, List.replicate, wipeR, restore, noOw, List.all_cons, List.all_nil, Bool.not_false, Bool.not_true, Bool.and_true, Bool.and_self, szOk, Nat.reduceLeDiff, Option.getD_some, Option.getD_none, decide_eq_true_eq, Nat.zero_add, out0, List.length_map]
          · simp -implicitDefEqProofs only [wp_bnd, wp_ret, wp_lift, wpV_some, wpV_none, wpV_ite, wpV_map, wp_stop, wp_ite, wp_mC, wp_mV, wp_mMove, wp_peek, wp_setS, wp_chk, wp_chg', wp_mCall, wp_mCallR, wp_sAug, wp_sAugI, wp_sSeq, wp_mComp, wp_run_nm, wp_run_ex, wp_get_nm, wp_get_ex, wp_mUn, wp_mBin, wp_runs_nil, wp_runs_cons, wp_gets_nil, wp_gets_cons, wp_mFn, wp_it_nil, wp_it_one, wp_it_star, wp_mTup, wp_mLst, wp_mT, wp_mNot, wp_mAnd, wp_mOr, wp_mBl, wp_asT, wp_mAndV, wp_mOrV, wp_mNotB, wp_mIf, wp_mYes, wp_itSeq, wp_itRng, wp_itEnum, wp_itZip, wp_lstRng, wp_tupRng, wp_part_none, wp_part_some, wp_mSl, wp_put_nm, wp_put_tup, wp_putAll_nil, wp_putAll_cons, wp_sNx, wp_sSet, wp_sPut, wp_temps_nil, wp_temps_cons, wp_setAll_nil, wp_setAll_cons, wp_sPar, wp_sDrop, wp_sRet, wp_sIf, wp_sFor, wp_sItem, wp_sApp, wp_sIns, wp_turn1, dat_fz, dat_ow, truth_int, truth_bool, truth_list, truth_tup, asBool_bool, intOf_int, seqOf_list, seqOf_tup, add_int, add_tup, add_list, sub_int, mul_int, mul_tup, mul_list, mod_int, fdiv_int, neg_int, lt_int, le_int, gt_int, ge_int, eq_int, ne_int, is_non, isnot_non, isNon, sl_list, sl_tup, len_list, len_tup, int_int, abs_int, max_2, max_3, min_2, min_3, tuple_list, tuple_tup, list_list, list_tup, app_D, ins_D, oIx_list, oIx_tup, getAt_0, getAt_1, getAt_2, getAt_3, putAt_0, putAt_1, putAt_2, ite_and, if_true, if_false, Bool.false_eq_true, ↓reduceIte, List.getElem?_cons_zero, List.getElem?_cons_succ, List.set_cons_zero, List.set_cons_succ, List.length_cons, List.length_nil, List.length_set, isOw_ow, isOw_fz, isOw_none, Nat.reduceAdd, Nat.reduceLT, Nat.reduceEqDiff, Nat.reduceSub, Int.reduceLT, Int.reduceLE, true_and, and_true, List.map_cons, List.map_nil, List.append_nil, List.nil_append, List.cons_append, List.replicate, wipeR, restore, noOw, List.all_cons, List.all_nil, Bool.not_false, Bool.not_true, Bool.and_true, Bool.and_self, szOk, Nat.reduceLeDiff, Option.getD_some, Option.getD_none, decide_eq_true_eq, Nat.zero_add, out0, List.length_map, flat1]
            rw [et, hk]
            rfl
        · show Val.fz .none = noneOr (lawT (r :: rs) ss)
          rw [et, hk]
          rfl
end FW

/-! FwF: what the laws say of tightened; knowledge's sizes, nested. -/
namespace FW
open PySem FK
def dOr (o : Option (List (List Int))) : FK.D := match o with
  | none => .none
  | some W => rowsD W
theorem noneOr_eq (o : Option (List (List Int))) : noneOr o = .fz (dOr o) := by cases o <;> rfl
def Small (xs : List Int) : Prop := ∀ x ∈ xs, -99999999999 ≤ x ∧ x ≤ 99999999999
theorem rp_ints {xs : List Int} {n : Nat} (h : Small xs) (hn : xs.length ≤ n) : RP (n * 41) 1 (tupI xs) := by
  refine rp_tuple (w := 40) (k := 0) (fun d hd => ?_) (by rw [List.length_map]; exact hn)
  obtain ⟨x, hx, rfl⟩ := List.mem_map.mp hd
  exact rp_int (h x hx).1 (h x hx).2
theorem rp_rows {rs : List (List Int)} {n f : Nat} (h : ∀ r ∈ rs, Small r ∧ r.length ≤ n) (hf : rs.length ≤ f) : RP (f * (n * 41 + 1)) 2 (rowsD rs) := by
  refine rp_tuple (w := n * 41) (k := 1) (fun d hd => ?_) (by rw [List.length_map]; exact hf)
  obtain ⟨r, hr, rfl⟩ := List.mem_map.mp hd
  exact rp_ints (h r hr).1 (h r hr).2
theorem rp_pair {a b : FK.D} {w k : Nat} (ha : RP w k a) (hb : RP w k b) : RP (2 * (w + 1)) (k + 1) (.list [a, b]) := by
  refine rp_list (fun d hd => ?_) (by simp)
  rcases List.mem_cons.mp hd with rfl | hd
  · exact ha
  · rw [List.mem_singleton.mp hd]; exact hb
section
variable {m : Nat}
theorem rp_due {rows : List (List Int)} {ss : List Int} (hl : rows.length = ss.length) (h1 : rows.length ≤ 100) (hm : m ≤ 100) (h2 : Len m rows) : RP 420000 2 (dOr (tightP rows ss)) := by
  cases h : tightP rows ss with
  | none => exact rp_none.mono (by omega) (by omega)
  | some W =>
    have t := tight_of hl h2 h
    refine (rp_rows (n := 101) (f := 100) (fun r hr => ⟨fun x hx => ?_, ?_⟩) ?_).mono (by omega) (by omega)
    · have a := t.top r hr x hx
      have b := nn_mem (t.all r hr).2.2 hx
      omega
    · have := (t.all r hr).1; omega
    · rw [t.len, ← hl]; exact h1
theorem is_told_ok {rows : List (List Int)} {ss : List Int} (h0 : rows ≠ []) (hl : rows.length = ss.length) (h1 : rows.length ≤ 100) (hm : m ≤ 100) (h2 : Len m rows) (hr : ∀ r ∈ rows, Small r) (hs : Small ss) :
    wpF (e__law_is_told.f [.fz (rowsD rows), .fz (tupI ss)]) fun v _ => v = .fz (.bool true) := by
  have hrow : ∀ r ∈ rows, r ≠ [] ∧ r.length ≤ 1000 := fun r hr => by
    have := h2 r hr
    refine ⟨fun e => ?_, by omega⟩
    rw [e] at this
    cases this
  have rpd := rp_due hl h1 hm h2
  have rp2 : RP 900000 3 (.list [rowsD rows, tupI ss]) := by
    refine (rp_pair (w := 420000) (k := 2) ?_ ?_).mono (by omega) (by omega)
    · exact (rp_rows (n := 101) (f := 100) (fun r h => ⟨hr r h, by have := h2 r h; omega⟩) h1).mono (by omega) (by omega)
    · exact (rp_ints (n := 100) hs (by omega)).mono (by omega) (by omega)
  have rpr := rp2.repr (by omega) (by omega)
  have two : rngOf [.int 2] = _ := rng_one (n := 2) (by omega)
  show wpF (fnOf 5 m__law_is_told _) _
  rw [wpF_fnOf]
  unfold m__law_is_told
  simp -implicitDefEqProofs only [wp_bnd, wp_ret, wp_lift, wpV_some, wpV_none, wpV_ite, wpV_map, wp_stop, wp_ite, wp_mC, wp_mV, wp_mMove, wp_peek, wp_setS, wp_chk, wp_chg', wp_mCall, wp_mCallR, wp_sAug, wp_sAugI, wp_sSeq, wp_mComp, wp_run_nm, wp_run_ex, wp_get_nm, wp_get_ex, wp_mUn, wp_mBin, wp_runs_nil, wp_runs_cons, wp_gets_nil, wp_gets_cons, wp_mFn, wp_it_nil, wp_it_one, wp_it_star, wp_mTup, wp_mLst, wp_mT, wp_mNot, wp_mAnd, wp_mOr, wp_mBl, wp_asT, wp_mAndV, wp_mOrV, wp_mNotB, wp_mIf, wp_mYes, wp_itSeq, wp_itRng, wp_itEnum, wp_itZip, wp_lstRng, wp_tupRng, wp_part_none, wp_part_some, wp_mSl, wp_put_nm, wp_put_tup, wp_putAll_nil, wp_putAll_cons, wp_sNx, wp_sSet, wp_sPut, wp_temps_nil, wp_temps_cons, wp_setAll_nil, wp_setAll_cons, wp_sPar, wp_sDrop, wp_sRet, wp_sIf, wp_sFor, wp_sItem, wp_sApp, wp_sIns, wp_turn1, dat_fz, dat_ow, truth_int, truth_bool, truth_list, truth_tup, asBool_bool, intOf_int, seqOf_list, seqOf_tup, add_int, add_tup, add_list, sub_int, mul_int, mul_tup, mul_list, mod_int, fdiv_int, neg_int, lt_int, le_int, gt_int, ge_int, eq_int, ne_int, is_non, isnot_non, isNon, sl_list, sl_tup, len_list, len_tup, int_int, abs_int, max_2, max_3, min_2, min_3, tuple_list, tuple_tup, list_list, list_tup, app_D, ins_D, oIx_list, oIx_tup, getAt_0, getAt_1, getAt_2, getAt_3, putAt_0, putAt_1, putAt_2, ite_and, if_true, if_false, Bool.false_eq_true, ↓reduceIte, List.getElem?_cons_zero, List.getElem?_cons_succ, List.set_cons_zero, List.set_cons_succ, List.length_cons, List.length_nil, List.length_set, isOw_ow, isOw_fz, isOw_none, Nat.reduceAdd, Nat.reduceLT, Nat.reduceEqDiff, Nat.reduceSub, Int.reduceLT, Int.reduceLE, true_and, and_true, List.map_cons, List.map_nil, List.append_nil, List.nil_append, List.cons_append, List.replicate, wipeR, restore, noOw, List.all_cons, List.all_nil, Bool.not_false, Bool.not_true, Bool.and_true, Bool.and_self, szOk, Nat.reduceLeDiff, Option.getD_some, Option.getD_none, decide_eq_true_eq, Nat.zero_add, out0, List.length_map]
  refine ⟨rfl, (lawT_ok rows ss m h0 hl (by omega) (by omega) h2).mono ?_⟩
  intro v o hv
  rw [hv, noneOr_eq]
  simp -implicitDefEqProofs only [wp_bnd, wp_ret, wp_lift, wpV_some, wpV_none, wpV_ite, wpV_map, wp_stop, wp_ite, wp_mC, wp_mV, wp_mMove, wp_peek, wp_setS, wp_chk, wp_chg', wp_mCall, wp_mCallR, wp_sAug, wp_sAugI, wp_sSeq, wp_mComp, wp_run_nm, wp_run_ex, wp_get_nm, wp_get_ex, wp_mUn, wp_mBin, wp_runs_nil, wp_runs_cons, wp_gets_nil, wp_gets_cons, wp_mFn, wp_it_nil, wp_it_one, wp_it_star, wp_mTup, wp_mLst, wp_mT, wp_mNot, wp_mAnd, wp_mOr, wp_mBl, wp_asT, wp_mAndV, wp_mOrV, wp_mNotB, wp_mIf, wp_mYes, wp_itSeq, wp_itRng, wp_itEnum, wp_itZip, wp_lstRng, wp_tupRng, wp_part_none, wp_part_some, wp_mSl, wp_put_nm, wp_put_tup, wp_putAll_nil, wp_putAll_cons, wp_sNx, wp_sSet, wp_sPut, wp_temps_nil, wp_temps_cons, wp_setAll_nil, wp_setAll_cons, wp_sPar, wp_sDrop, wp_sRet, wp_sIf, wp_sFor, wp_sItem, wp_sApp, wp_sIns, wp_turn1, dat_fz, dat_ow, truth_int, truth_bool, truth_list, truth_tup, asBool_bool, intOf_int, seqOf_list, seqOf_tup, add_int, add_tup, add_list, sub_int, mul_int, mul_tup, mul_list, mod_int, fdiv_int, neg_int, lt_int, le_int, gt_int, ge_int, eq_int, ne_int, is_non, isnot_non, isNon, sl_list, sl_tup, len_list, len_tup, int_int, abs_int, max_2, max_3, min_2, min_3, tuple_list, tuple_tup, list_list, list_tup, app_D, ins_D, oIx_list, oIx_tup, getAt_0, getAt_1, getAt_2, getAt_3, putAt_0, putAt_1, putAt_2, ite_and, if_true, if_false, Bool.false_eq_true, ↓reduceIte, List.getElem?_cons_zero, List.getElem?_cons_succ, List.set_cons_zero, List.set_cons_succ, List.length_cons, List.length_nil, List.length_set, isOw_ow, isOw_fz, isOw_none, Nat.reduceAdd, Nat.reduceLT, Nat.reduceEqDiff, Nat.reduceSub, Int.reduceLT, Int.reduceLE, true_and, and_true, List.map_cons, List.map_nil, List.append_nil, List.nil_append, List.cons_append, List.replicate, wipeR, restore, noOw, List.all_cons, List.all_nil, Bool.not_false, Bool.not_true, Bool.and_true, Bool.and_self, szOk, Nat.reduceLeDiff, Option.getD_some, Option.getD_none, decide_eq_true_eq, Nat.zero_add, out0, List.length_map, oRepr, rpr, two]
  refine wp_up (fun j ρ => ∃ x4, ρ = [some (.fz (rowsD rows)), some (.fz (tupI ss)), some (.fz (dOr (tightP rows ss))), some (.fz (.str (PyData.list [rowsD rows, tupI ss]).shown)), x4]) (fun j ρ hj h => ?_) (fun ρ h => ?_) ⟨_, rfl⟩
  · obtain ⟨x4, rfl⟩ := h
    unfold b1__law_is_told
    simp -implicitDefEqProofs only [wp_bnd, wp_ret, wp_lift, wpV_some, wpV_none, wpV_ite, wpV_map, wp_stop, wp_ite, wp_mC, wp_mV, wp_mMove, wp_peek, wp_setS, wp_chk, wp_chg', wp_mCall, wp_mCallR, wp_sAug, wp_sAugI, wp_sSeq, wp_mComp, wp_run_nm, wp_run_ex, wp_get_nm, wp_get_ex, wp_mUn, wp_mBin, wp_runs_nil, wp_runs_cons, wp_gets_nil, wp_gets_cons, wp_mFn, wp_it_nil, wp_it_one, wp_it_star, wp_mTup, wp_mLst, wp_mT, wp_mNot, wp_mAnd, wp_mOr, wp_mBl, wp_asT, wp_mAndV, wp_mOrV, wp_mNotB, wp_mIf, wp_mYes, wp_itSeq, wp_itRng, wp_itEnum, wp_itZip, wp_lstRng, wp_tupRng, wp_part_none, wp_part_some, wp_mSl, wp_put_nm, wp_put_tup, wp_putAll_nil, wp_putAll_cons, wp_sNx, wp_sSet, wp_sPut, wp_temps_nil, wp_temps_cons, wp_setAll_nil, wp_setAll_cons, wp_sPar, wp_sDrop, wp_sRet, wp_sIf, wp_sFor, wp_sItem, wp_sApp, wp_sIns, wp_turn1, dat_fz, dat_ow, truth_int, truth_bool, truth_list, truth_tup, asBool_bool, intOf_int, seqOf_list, seqOf_tup, add_int, add_tup, add_list, sub_int, mul_int, mul_tup, mul_list, mod_int, fdiv_int, neg_int, lt_int, le_int, gt_int, ge_int, eq_int, ne_int, is_non, isnot_non, isNon, sl_list, sl_tup, len_list, len_tup, int_int, abs_int, max_2, max_3, min_2, min_3, tuple_list, tuple_tup, list_list, list_tup, app_D, ins_D, oIx_list, oIx_tup, getAt_0, getAt_1, getAt_2, getAt_3, putAt_0, putAt_1, putAt_2, ite_and, if_true, if_false, Bool.false_eq_true, ↓reduceIte, List.getElem?_cons_zero, List.getElem?_cons_succ, List.set_cons_zero, List.set_cons_succ, List.length_cons, List.length_nil, List.length_set, isOw_ow, isOw_fz, isOw_none, Nat.reduceAdd, Nat.reduceLT, Nat.reduceEqDiff, Nat.reduceSub, Int.reduceLT, Int.reduceLE, true_and, and_true, List.map_cons, List.map_nil, List.append_nil, List.nil_append, List.cons_append, List.replicate, wipeR, restore, noOw, List.all_cons, List.all_nil, Bool.not_false, Bool.not_true, Bool.and_true, Bool.and_self, szOk, Nat.reduceLeDiff, Option.getD_some, Option.getD_none, decide_eq_true_eq, Nat.zero_add, out0, List.length_map]
    refine ⟨rfl, (tightened_ok rows ss h0 hl (by omega) hrow).mono ?_⟩
    intro v o hv
    rw [hv, noneOr_eq]
    simp -implicitDefEqProofs only [wp_bnd, wp_ret, wp_lift, wpV_some, wpV_none, wpV_ite, wpV_map, wp_stop, wp_ite, wp_mC, wp_mV, wp_mMove, wp_peek, wp_setS, wp_chk, wp_chg', wp_mCall, wp_mCallR, wp_sAug, wp_sAugI, wp_sSeq, wp_mComp, wp_run_nm, wp_run_ex, wp_get_nm, wp_get_ex, wp_mUn, wp_mBin, wp_runs_nil, wp_runs_cons, wp_gets_nil, wp_gets_cons, wp_mFn, wp_it_nil, wp_it_one, wp_it_star, wp_mTup, wp_mLst, wp_mT, wp_mNot, wp_mAnd, wp_mOr, wp_mBl, wp_asT, wp_mAndV, wp_mOrV, wp_mNotB, wp_mIf, wp_mYes, wp_itSeq, wp_itRng, wp_itEnum, wp_itZip, wp_lstRng, wp_tupRng, wp_part_none, wp_part_some, wp_mSl, wp_put_nm, wp_put_tup, wp_putAll_nil, wp_putAll_cons, wp_sNx, wp_sSet, wp_sPut, wp_temps_nil, wp_temps_cons, wp_setAll_nil, wp_setAll_cons, wp_sPar, wp_sDrop, wp_sRet, wp_sIf, wp_sFor, wp_sItem, wp_sApp, wp_sIns, wp_turn1, dat_fz, dat_ow, truth_int, truth_bool, truth_list, truth_tup, asBool_bool, intOf_int, seqOf_list, seqOf_tup, add_int, add_tup, add_list, sub_int, mul_int, mul_tup, mul_list, mod_int, fdiv_int, neg_int, lt_int, le_int, gt_int, ge_int, eq_int, ne_int, is_non, isnot_non, isNon, sl_list, sl_tup, len_list, len_tup, int_int, abs_int, max_2, max_3, min_2, min_3, tuple_list, tuple_tup, list_list, list_tup, app_D, ins_D, oIx_list, oIx_tup, getAt_0, getAt_1, getAt_2, getAt_3, putAt_0, putAt_1, putAt_2, ite_and, if_true, if_false, Bool.false_eq_true, ↓reduceIte, List.getElem?_cons_zero, List.getElem?_cons_succ, List.set_cons_zero, List.set_cons_succ, List.length_cons, List.length_nil, List.length_set, isOw_ow, isOw_fz, isOw_none, Nat.reduceAdd, Nat.reduceLT, Nat.reduceEqDiff, Nat.reduceSub, Int.reduceLT, Int.reduceLE, true_and, and_true, List.map_cons, List.map_nil, List.append_nil, List.nil_append, List.cons_append, List.replicate, wipeR, restore, noOw, List.all_cons, List.all_nil, Bool.not_false, Bool.not_true, Bool.and_true, Bool.and_self, szOk, Nat.reduceLeDiff, Option.getD_some, Option.getD_none, decide_eq_true_eq, Nat.zero_add, out0, List.length_map]
    refine ⟨rfl, (alike_ok rpd (by omega) (by omega)).mono ?_⟩
    rintro _ _ rfl
    simp -implicitDefEqProofs only [wp_bnd, wp_ret, wp_lift, wpV_some, wpV_none, wpV_ite, wpV_map, wp_stop, wp_ite, wp_mC, wp_mV, wp_mMove, wp_peek, wp_setS, wp_chk, wp_chg', wp_mCall, wp_mCallR, wp_sAug, wp_sAugI, wp_sSeq, wp_mComp, wp_run_nm, wp_run_ex, wp_get_nm, wp_get_ex, wp_mUn, wp_mBin, wp_runs_nil, wp_runs_cons, wp_gets_nil, wp_gets_cons, wp_mFn, wp_it_nil, wp_it_one, wp_it_star, wp_mTup, wp_mLst, wp_mT, wp_mNot, wp_mAnd, wp_mOr, wp_mBl, wp_asT, wp_mAndV, wp_mOrV, wp_mNotB, wp_mIf, wp_mYes, wp_itSeq, wp_itRng, wp_itEnum, wp_itZip, wp_lstRng, wp_tupRng, wp_part_none, wp_part_some, wp_mSl, wp_put_nm, wp_put_tup, wp_putAll_nil, wp_putAll_cons, wp_sNx, wp_sSet, wp_sPut, wp_temps_nil, wp_temps_cons, wp_setAll_nil, wp_setAll_cons, wp_sPar, wp_sDrop, wp_sRet, wp_sIf, wp_sFor, wp_sItem, wp_sApp, wp_sIns, wp_turn1, dat_fz, dat_ow, truth_int, truth_bool, truth_list, truth_tup, asBool_bool, intOf_int, seqOf_list, seqOf_tup, add_int, add_tup, add_list, sub_int, mul_int, mul_tup, mul_list, mod_int, fdiv_int, neg_int, lt_int, le_int, gt_int, ge_int, eq_int, ne_int, is_non, isnot_non, isNon, sl_list, sl_tup, len_list, len_tup, int_int, abs_int, max_2, max_3, min_2, min_3, tuple_list, tuple_tup, list_list, list_tup, app_D, ins_D, oIx_list, oIx_tup, getAt_0, getAt_1, getAt_2, getAt_3, putAt_0, putAt_1, putAt_2, ite_and, if_true, if_false, Bool.false_eq_true, ↓reduceIte, List.getElem?_cons_zero, List.getElem?_cons_succ, List.set_cons_zero, List.set_cons_succ, List.length_cons, List.length_nil, List.length_set, isOw_ow, isOw_fz, isOw_none, Nat.reduceAdd, Nat.reduceLT, Nat.reduceEqDiff, Nat.reduceSub, Int.reduceLT, Int.reduceLE, true_and, and_true, List.map_cons, List.map_nil, List.append_nil, List.nil_append, List.cons_append, List.replicate, wipeR, restore, noOw, List.all_cons, List.all_nil, Bool.not_false, Bool.not_true, Bool.and_true, Bool.and_self, szOk, Nat.reduceLeDiff, Option.getD_some, Option.getD_none, decide_eq_true_eq, Nat.zero_add, out0, List.length_map, oRepr, rpr, ne_str]
    exact ⟨_, rfl⟩
  · obtain ⟨x4, rfl⟩ := h
    simp -implicitDefEqProofs only [wp_bnd, wp_ret, wp_lift, wpV_some, wpV_none, wpV_ite, wpV_map, wp_stop, wp_ite, wp_mC, wp_mV, wp_mMove, wp_peek, wp_setS, wp_chk, wp_chg', wp_mCall, wp_mCallR, wp_sAug, wp_sAugI, wp_sSeq, wp_mComp, wp_run_nm, wp_run_ex, wp_get_nm, wp_get_ex, wp_mUn, wp_mBin, wp_runs_nil, wp_runs_cons, wp_gets_nil, wp_gets_cons, wp_mFn, wp_it_nil, wp_it_one, wp_it_star, wp_mTup, wp_mLst, wp_mT, wp_mNot, wp_mAnd, wp_mOr, wp_mBl, wp_asT, wp_mAndV, wp_mOrV, wp_mNotB, wp_mIf, wp_mYes, wp_itSeq, wp_itRng, wp_itEnum, wp_itZip, wp_lstRng, wp_tupRng, wp_part_none, wp_part_some, wp_mSl, wp_put_nm, wp_put_tup, wp_putAll_nil, wp_putAll_cons, wp_sNx, wp_sSet, wp_sPut, wp_temps_nil, wp_temps_cons, wp_setAll_nil, wp_setAll_cons, wp_sPar, wp_sDrop, wp_sRet, wp_sIf, wp_sFor, wp_sItem, wp_sApp, wp_sIns, wp_turn1, dat_fz, dat_ow, truth_int, truth_bool, truth_list, truth_tup, asBool_bool, intOf_int, seqOf_list, seqOf_tup, add_int, add_tup, add_list, sub_int, mul_int, mul_tup, mul_list, mod_int, fdiv_int, neg_int, lt_int, le_int, gt_int, ge_int, eq_int, ne_int, is_non, isnot_non, isNon, sl_list, sl_tup, len_list, len_tup, int_int, abs_int, max_2, max_3, min_2, min_3, tuple_list, tuple_tup, list_list, list_tup, app_D, ins_D, oIx_list, oIx_tup, getAt_0, getAt_1, getAt_2, getAt_3, putAt_0, putAt_1, putAt_2, ite_and, if_true, if_false, Bool.false_eq_true, ↓reduceIte, List.getElem?_cons_zero, List.getElem?_cons_succ, List.set_cons_zero, List.set_cons_succ, List.length_cons, List.length_nil, List.length_set, isOw_ow, isOw_fz, isOw_none, Nat.reduceAdd, Nat.reduceLT, Nat.reduceEqDiff, Nat.reduceSub, Int.reduceLT, Int.reduceLE, true_and, and_true, List.map_cons, List.map_nil, List.append_nil, List.nil_append, List.cons_append, List.replicate, wipeR, restore, noOw, List.all_cons, List.all_nil, Bool.not_false, Bool.not_true, Bool.and_true, Bool.and_self, szOk, Nat.reduceLeDiff, Option.getD_some, Option.getD_none, decide_eq_true_eq, Nat.zero_add, out0, List.length_map]
    cases h : tightP rows ss with
    | none =>
      simp -implicitDefEqProofs only [wp_bnd, wp_ret, wp_lift, wpV_some, wpV_none, wpV_ite, wpV_map, wp_stop, wp_ite, wp_mC, wp_mV, wp_mMove, wp_peek, wp_setS, wp_chk, wp_chg', wp_mCall, wp_mCallR, wp_sAug, wp_sAugI, wp_sSeq, wp_mComp, wp_run_nm, wp_run_ex, wp_get_nm, wp_get_ex, wp_mUn, wp_mBin, wp_runs_nil, wp_runs_cons, wp_gets_nil, wp_gets_cons, wp_mFn, wp_it_nil, wp_it_one, wp_it_star, wp_mTup, wp_mLst, wp_mT, wp_mNot, wp_mAnd, wp_mOr, wp_mBl, wp_asT, wp_mAndV, wp_mOrV, wp_mNotB, wp_mIf, wp_mYes, wp_itSeq, wp_itRng, wp_itEnum, wp_itZip, wp_lstRng, wp_tupRng, wp_part_none, wp_part_some, wp_mSl, wp_put_nm, wp_put_tup, wp_putAll_nil, wp_putAll_cons, wp_sNx, wp_sSet, wp_sPut, wp_temps_nil, wp_temps_cons, wp_setAll_nil, wp_setAll_cons, wp_sPar, wp_sDrop, wp_sRet, wp_sIf, wp_sFor, wp_sItem, wp_sApp, wp_sIns, wp_turn1, dat_fz, dat_ow, truth_int, truth_bool, truth_list, truth_tup, asBool_bool, intOf_int, seqOf_list, seqOf_tup, add_int, add_tup, add_list, sub_int, mul_int, mul_tup, mul_list, mod_int, fdiv_int, neg_int, lt_int, le_int, gt_int, ge_int, eq_int, ne_int, is_non, isnot_non, isNon, sl_list, sl_tup, len_list, len_tup, int_int, abs_int, max_2, max_3, min_2, min_3, tuple_list, tuple_tup, list_list, list_tup, app_D, ins_D, oIx_list, oIx_tup, getAt_0, getAt_1, getAt_2, getAt_3, putAt_0, putAt_1, putAt_2, ite_and, if_true, if_false, Bool.false_eq_true, ↓reduceIte, List.getElem?_cons_zero, List.getElem?_cons_succ, List.set_cons_zero, List.set_cons_succ, List.length_cons, List.length_nil, List.length_set, isOw_ow, isOw_fz, isOw_none, Nat.reduceAdd, Nat.reduceLT, Nat.reduceEqDiff, Nat.reduceSub, Int.reduceLT, Int.reduceLE, true_and, and_true, List.map_cons, List.map_nil, List.append_nil, List.nil_append, List.cons_append, List.replicate, wipeR, restore, noOw, List.all_cons, List.all_nil, Bool.not_false, Bool.not_true, Bool.and_true, Bool.and_self, szOk, Nat.reduceLeDiff, Option.getD_some, Option.getD_none, decide_eq_true_eq, Nat.zero_add, out0, List.length_map, dOr]
    | some W =>
      have t := tight_of hl h2 h
      rw [h] at rpd
      simp -implicitDefEqProofs only [wp_bnd, wp_ret, wp_lift, wpV_some, wpV_none, wpV_ite, wpV_map, wp_stop, wp_ite, wp_mC, wp_mV, wp_mMove, wp_peek, wp_setS, wp_chk, wp_chg', wp_mCall, wp_mCallR, wp_sAug, wp_sAugI, wp_sSeq, wp_mComp, wp_run_nm, wp_run_ex, wp_get_nm, wp_get_ex, wp_mUn, wp_mBin, wp_runs_nil, wp_runs_cons, wp_gets_nil, wp_gets_cons, wp_mFn, wp_it_nil, wp_it_one, wp_it_star, wp_mTup, wp_mLst, wp_mT, wp_mNot, wp_mAnd, wp_mOr, wp_mBl, wp_asT, wp_mAndV, wp_mOrV, wp_mNotB, wp_mIf, wp_mYes, wp_itSeq, wp_itRng, wp_itEnum, wp_itZip, wp_lstRng, wp_tupRng, wp_part_none, wp_part_some, wp_mSl, wp_put_nm, wp_put_tup, wp_putAll_nil, wp_putAll_cons, wp_sNx, wp_sSet, wp_sPut, wp_temps_nil, wp_temps_cons, wp_setAll_nil, wp_setAll_cons, wp_sPar, wp_sDrop, wp_sRet, wp_sIf, wp_sFor, wp_sItem, wp_sApp, wp_sIns, wp_turn1, dat_fz, dat_ow, truth_int, truth_bool, truth_list, truth_tup, asBool_bool, intOf_int, seqOf_list, seqOf_tup, add_int, add_tup, add_list, sub_int, mul_int, mul_tup, mul_list, mod_int, fdiv_int, neg_int, lt_int, le_int, gt_int, ge_int, eq_int, ne_int, is_non, isnot_non, isNon, sl_list, sl_tup, len_list, len_tup, int_int, abs_int, max_2, max_3, min_2, min_3, tuple_list, tuple_tup, list_list, list_tup, app_D, ins_D, oIx_list, oIx_tup, getAt_0, getAt_1, getAt_2, getAt_3, putAt_0, putAt_1, putAt_2, ite_and, if_true, if_false, Bool.false_eq_true, ↓reduceIte, List.getElem?_cons_zero, List.getElem?_cons_succ, List.set_cons_zero, List.set_cons_succ, List.length_cons, List.length_nil, List.length_set, isOw_ow, isOw_fz, isOw_none, Nat.reduceAdd, Nat.reduceLT, Nat.reduceEqDiff, Nat.reduceSub, Int.reduceLT, Int.reduceLE, true_and, and_true, List.map_cons, List.map_nil, List.append_nil, List.nil_append, List.cons_append, List.replicate, wipeR, restore, noOw, List.all_cons, List.all_nil, Bool.not_false, Bool.not_true, Bool.and_true, Bool.and_self, szOk, Nat.reduceLeDiff, Option.getD_some, Option.getD_none, decide_eq_true_eq, Nat.zero_add, out0, List.length_map, dOr]
      refine ⟨rfl, (tightened_ok W ss t.nil t.len (by rw [t.len, ← hl]; omega) fun r hr => ?_).mono ?_⟩
      · have := (t.all r hr).1
        refine ⟨fun e => ?_, by omega⟩
        rw [e] at this
        cases this
      · intro v o hv
        rw [hv, t.again, noneOr_eq]
        simp -implicitDefEqProofs only [wp_bnd, wp_ret, wp_lift, wpV_some, wpV_none, wpV_ite, wpV_map, wp_stop, wp_ite, wp_mC, wp_mV, wp_mMove, wp_peek, wp_setS, wp_chk, wp_chg', wp_mCall, wp_mCallR, wp_sAug, wp_sAugI, wp_sSeq, wp_mComp, wp_run_nm, wp_run_ex, wp_get_nm, wp_get_ex, wp_mUn, wp_mBin, wp_runs_nil, wp_runs_cons, wp_gets_nil, wp_gets_cons, wp_mFn, wp_it_nil, wp_it_one, wp_it_star, wp_mTup, wp_mLst, wp_mT, wp_mNot, wp_mAnd, wp_mOr, wp_mBl, wp_asT, wp_mAndV, wp_mOrV, wp_mNotB, wp_mIf, wp_mYes, wp_itSeq, wp_itRng, wp_itEnum, wp_itZip, wp_lstRng, wp_tupRng, wp_part_none, wp_part_some, wp_mSl, wp_put_nm, wp_put_tup, wp_putAll_nil, wp_putAll_cons, wp_sNx, wp_sSet, wp_sPut, wp_temps_nil, wp_temps_cons, wp_setAll_nil, wp_setAll_cons, wp_sPar, wp_sDrop, wp_sRet, wp_sIf, wp_sFor, wp_sItem, wp_sApp, wp_sIns, wp_turn1, dat_fz, dat_ow, truth_int, truth_bool, truth_list, truth_tup, asBool_bool, intOf_int, seqOf_list, seqOf_tup, add_int, add_tup, add_list, sub_int, mul_int, mul_tup, mul_list, mod_int, fdiv_int, neg_int, lt_int, le_int, gt_int, ge_int, eq_int, ne_int, is_non, isnot_non, isNon, sl_list, sl_tup, len_list, len_tup, int_int, abs_int, max_2, max_3, min_2, min_3, tuple_list, tuple_tup, list_list, list_tup, app_D, ins_D, oIx_list, oIx_tup, getAt_0, getAt_1, getAt_2, getAt_3, putAt_0, putAt_1, putAt_2, ite_and, if_true, if_false, Bool.false_eq_true, ↓reduceIte, List.getElem?_cons_zero, List.getElem?_cons_succ, List.set_cons_zero, List.set_cons_succ, List.length_cons, List.length_nil, List.length_set, isOw_ow, isOw_fz, isOw_none, Nat.reduceAdd, Nat.reduceLT, Nat.reduceEqDiff, Nat.reduceSub, Int.reduceLT, Int.reduceLE, true_and, and_true, List.map_cons, List.map_nil, List.append_nil, List.nil_append, List.cons_append, List.replicate, wipeR, restore, noOw, List.all_cons, List.all_nil, Bool.not_false, Bool.not_true, Bool.and_true, Bool.and_self, szOk, Nat.reduceLeDiff, Option.getD_some, Option.getD_none, decide_eq_true_eq, Nat.zero_add, out0, List.length_map]
        refine ⟨rfl, (alike_ok rpd (by omega) (by omega)).mono ?_⟩
        rintro _ _ rfl
        simp -implicitDefEqProofs only [wp_bnd, wp_ret, wp_lift, wpV_some, wpV_none, wpV_ite, wpV_map, wp_stop, wp_ite, wp_mC, wp_mV, wp_mMove, wp_peek, wp_setS, wp_chk, wp_chg', wp_mCall, wp_mCallR, wp_sAug, wp_sAugI, wp_sSeq, wp_mComp, wp_run_nm, wp_run_ex, wp_get_nm, wp_get_ex, wp_mUn, wp_mBin, wp_runs_nil, wp_runs_cons, wp_gets_nil, wp_gets_cons, wp_mFn, wp_it_nil, wp_it_one, wp_it_star, wp_mTup, wp_mLst, wp_mT, wp_mNot, wp_mAnd, wp_mOr, wp_mBl, wp_asT, wp_mAndV, wp_mOrV, wp_mNotB, wp_mIf, wp_mYes, wp_itSeq, wp_itRng, wp_itEnum, wp_itZip, wp_lstRng, wp_tupRng, wp_part_none, wp_part_some, wp_mSl, wp_put_nm, wp_put_tup, wp_putAll_nil, wp_putAll_cons, wp_sNx, wp_sSet, wp_sPut, wp_temps_nil, wp_temps_cons, wp_setAll_nil, wp_setAll_cons, wp_sPar, wp_sDrop, wp_sRet, wp_sIf, wp_sFor, wp_sItem, wp_sApp, wp_sIns, wp_turn1, dat_fz, dat_ow, truth_int, truth_bool, truth_list, truth_tup, asBool_bool, intOf_int, seqOf_list, seqOf_tup, add_int, add_tup, add_list, sub_int, mul_int, mul_tup, mul_list, mod_int, fdiv_int, neg_int, lt_int, le_int, gt_int, ge_int, eq_int, ne_int, is_non, isnot_non, isNon, sl_list, sl_tup, len_list, len_tup, int_int, abs_int, max_2, max_3, min_2, min_3, tuple_list, tuple_tup, list_list, list_tup, app_D, ins_D, oIx_list, oIx_tup, getAt_0, getAt_1, getAt_2, getAt_3, putAt_0, putAt_1, putAt_2, ite_and, if_true, if_false, Bool.false_eq_true, ↓reduceIte, List.getElem?_cons_zero, List.getElem?_cons_succ, List.set_cons_zero, List.set_cons_succ, List.length_cons, List.length_nil, List.length_set, isOw_ow, isOw_fz, isOw_none, Nat.reduceAdd, Nat.reduceLT, Nat.reduceEqDiff, Nat.reduceSub, Int.reduceLT, Int.reduceLE, true_and, and_true, List.map_cons, List.map_nil, List.append_nil, List.nil_append, List.cons_append, List.replicate, wipeR, restore, noOw, List.all_cons, List.all_nil, Bool.not_false, Bool.not_true, Bool.and_true, Bool.and_self, szOk, Nat.reduceLeDiff, Option.getD_some, Option.getD_none, decide_eq_true_eq, Nat.zero_add, out0, List.length_map]
end
end FW

/-! FwG: sizes and nesting of a knowledge. -/
namespace FW
open PySem FK
/-! _law_is_nested : 0 _law_known, 1 _law_one_here, 2 _law_other, 3 _law_at -/
def b1__law_is_nested : MS := (sIf (asT (mBin oNe (.ex (mComp [3] (itRng [(.ex (mC (.int 1))), (.ex (mFn oLen [(.nm 1)]))]) (.nm 3) (mAnd (asT (mBin oGt (.ex (mBin oIx (.nm 1) (.nm 3))) (.ex (mBin oIx (.nm 1) (.ex (mBin oSub (.nm 3) (.ex (mC (.int 1))))))))) (asT (mBin oEq (.ex (mBin oIx (.nm 2) (.nm 3))) (.ex (mBin oIx (.nm 2) (.ex (mBin oSub (.nm 3) (.ex (mC (.int 1)))))))))) (mC (.int 1)))) (.ex (mLst []))))
  (sRet (mC (.bool false)))
  sNx)
def m__law_is_nested : MS := (sSeq (sFor (itZip (mBin oIx (.nm 0) (.ex (mC (.int 1)))) (mSl (.ex (mBin oIx (.nm 0) (.ex (mC (.int 1))))) (some (mC (.int 1))) none)) (.tup [(.nm 1), (.nm 2)]) b1__law_is_nested)
  (sRet (mC (.bool true))))
def e__law_is_nested : FnE := ⟨fnOf 4 m__law_is_nested, 1, false⟩
theorem getAt_ints {w : List Int} {i : Int} {k : Nat} (e : i = (k : Int)) (h : k < w.length) : getAt i (intsD w) = some (.int (w.getD k 0)) := by
  refine getAt_int e ?_
  rw [List.getElem?_map, List.getElem?_eq_getElem h, List.getD_eq_getElem?_getD, List.getElem?_eq_getElem h]
  rfl
theorem drop1 {α : Type} (f : α → FK.D) (xs : List α) : cutD (xs.map f) (some 1) none = xs.tail.map f := by
  rw [cut_tail]
  cases xs <;> rfl
def lastsP (W : List (List Int)) : List Int := W.map fun w => w.getLastD 0
theorem known_sizes_ok {o : FK.D} {W : List (List Int)} (h : ∀ w ∈ W, w ≠ []) : wpF (e_known_sizes.f [.fz (.tuple [o, rowsD W])]) fun v _ => v = .fz (tupI (lastsP W)) := by
  show wpF (fnOf 2 m_known_sizes _) _
  rw [wpF_fnOf]
  unfold m_known_sizes
  simp -implicitDefEqProofs only [wp_bnd, wp_ret, wp_lift, wpV_some, wpV_none, wpV_ite, wpV_map, wp_stop, wp_ite, wp_mC, wp_mV, wp_mMove, wp_peek, wp_setS, wp_chk, wp_chg', wp_mCall, wp_mCallR, wp_sAug, wp_sAugI, wp_sSeq, wp_mComp, wp_run_nm, wp_run_ex, wp_get_nm, wp_get_ex, wp_mUn, wp_mBin, wp_runs_nil, wp_runs_cons, wp_gets_nil, wp_gets_cons, wp_mFn, wp_it_nil, wp_it_one, wp_it_star, wp_mTup, wp_mLst, wp_mT, wp_mNot, wp_mAnd, wp_mOr, wp_mBl, wp_asT, wp_mAndV, wp_mOrV, wp_mNotB, wp_mIf, wp_mYes, wp_itSeq, wp_itRng, wp_itEnum, wp_itZip, wp_lstRng, wp_tupRng, wp_part_none, wp_part_some, wp_mSl, wp_put_nm, wp_put_tup, wp_putAll_nil, wp_putAll_cons, wp_sNx, wp_sSet, wp_sPut, wp_temps_nil, wp_temps_cons, wp_setAll_nil, wp_setAll_cons, wp_sPar, wp_sDrop, wp_sRet, wp_sIf, wp_sFor, wp_sItem, wp_sApp, wp_sIns, wp_turn1, dat_fz, dat_ow, truth_int, truth_bool, truth_list, truth_tup, asBool_bool, intOf_int, seqOf_list, seqOf_tup, add_int, add_tup, add_list, sub_int, mul_int, mul_tup, mul_list, mod_int, fdiv_int, neg_int, lt_int, le_int, gt_int, ge_int, eq_int, ne_int, is_non, isnot_non, isNon, sl_list, sl_tup, len_list, len_tup, int_int, abs_int, max_2, max_3, min_2, min_3, tuple_list, tuple_tup, list_list, list_tup, app_D, ins_D, oIx_list, oIx_tup, getAt_0, getAt_1, getAt_2, getAt_3, putAt_0, putAt_1, putAt_2, ite_and, if_true, if_false, Bool.false_eq_true, ↓reduceIte, List.getElem?_cons_zero, List.getElem?_cons_succ, List.set_cons_zero, List.set_cons_succ, List.length_cons, List.length_nil, List.length_set, isOw_ow, isOw_fz, isOw_none, Nat.reduceAdd, Nat.reduceLT, Nat.reduceEqDiff, Nat.reduceSub, Int.reduceLT, Int.reduceLE, true_and, and_true, List.map_cons, List.map_nil, List.append_nil, List.nil_append, List.cons_append, List.replicate, wipeR, restore, noOw, List.all_cons, List.all_nil, Bool.not_false, Bool.not_true, Bool.and_true, Bool.and_self, szOk, Nat.reduceLeDiff, Option.getD_some, Option.getD_none, decide_eq_true_eq, Nat.zero_add, out0, List.length_map]
  refine wp_compP (enc := tupI) (g := fun w => [.int (w.getLastD 0)]) (fun w hw => ?_) ?_
  · have hg : getAt (-1) (intsD w) = some (.int (w.getLastD 0)) := by
      have hw' := h w hw
      rw [getAt_last' (by simpa using hw'), List.getLast_map, List.getLastD_eq_getLast?, List.getLast?_eq_getLast hw']
      rfl
    simp -implicitDefEqProofs only [wp_bnd, wp_ret, wp_lift, wpV_some, wpV_none, wpV_ite, wpV_map, wp_stop, wp_ite, wp_mC, wp_mV, wp_mMove, wp_peek, wp_setS, wp_chk, wp_chg', wp_mCall, wp_mCallR, wp_sAug, wp_sAugI, wp_sSeq, wp_mComp, wp_run_nm, wp_run_ex, wp_get_nm, wp_get_ex, wp_mUn, wp_mBin, wp_runs_nil, wp_runs_cons, wp_gets_nil, wp_gets_cons, wp_mFn, wp_it_nil, wp_it_one, wp_it_star, wp_mTup, wp_mLst, wp_mT, wp_mNot, wp_mAnd, wp_mOr, wp_mBl, wp_asT, wp_mAndV, wp_mOrV, wp_mNotB, wp_mIf, wp_mYes, wp_itSeq, wp_itRng, wp_itEnum, wp_itZip, wp_lstRng, wp_tupRng, wp_part_none, wp_part_some, wp_mSl, wp_put_nm, wp_put_tup, wp_putAll_nil, wp_putAll_cons, wp_sNx, wp_sSet, wp_sPut, wp_temps_nil, wp_temps_cons, wp_setAll_nil, wp_setAll_cons, wp_sPar, wp_sDrop, wp_sRet, wp_sIf, wp_sFor, wp_sItem, wp_sApp, wp_sIns, wp_turn1, dat_fz, dat_ow, truth_int, truth_bool, truth_list, truth_tup, asBool_bool, intOf_int, seqOf_list, seqOf_tup, add_int, add_tup, add_list, sub_int, mul_int, mul_tup, mul_list, mod_int, fdiv_int, neg_int, lt_int, le_int, gt_int, ge_int, eq_int, ne_int, is_non, isnot_non, isNon, sl_list, sl_tup, len_list, len_tup, int_int, abs_int, max_2, max_3, min_2, min_3, tuple_list, tuple_tup, list_list, list_tup, app_D, ins_D, oIx_list, oIx_tup, getAt_0, getAt_1, getAt_2, getAt_3, putAt_0, putAt_1, putAt_2, ite_and, if_true, if_false, Bool.false_eq_true, ↓reduceIte, List.getElem?_cons_zero, List.getElem?_cons_succ, List.set_cons_zero, List.set_cons_succ, List.length_cons, List.length_nil, List.length_set, isOw_ow, isOw_fz, isOw_none, Nat.reduceAdd, Nat.reduceLT, Nat.reduceEqDiff, Nat.reduceSub, Int.reduceLT, Int.reduceLE, true_and, and_true, List.map_cons, List.map_nil, List.append_nil, List.nil_append, List.cons_append, List.replicate, wipeR, restore, noOw, List.all_cons, List.all_nil, Bool.not_false, Bool.not_true, Bool.and_true, Bool.and_self, szOk, Nat.reduceLeDiff, Option.getD_some, Option.getD_none, decide_eq_true_eq, Nat.zero_add, out0, List.length_map, hg]
  · simp -implicitDefEqProofs only [wp_bnd, wp_ret, wp_lift, wpV_some, wpV_none, wpV_ite, wpV_map, wp_stop, wp_ite, wp_mC, wp_mV, wp_mMove, wp_peek, wp_setS, wp_chk, wp_chg', wp_mCall, wp_mCallR, wp_sAug, wp_sAugI, wp_sSeq, wp_mComp, wp_run_nm, wp_run_ex, wp_get_nm, wp_get_ex, wp_mUn, wp_mBin, wp_runs_nil, wp_runs_cons, wp_gets_nil, wp_gets_cons, wp_mFn, wp_it_nil, wp_it_one, wp_it_star, wp_mTup, wp_mLst, wp_mT, wp_mNot, wp_mAnd, wp_mOr, wp_mBl, wp_asT, wp_mAndV, wp_mOrV, wp_mNotB, wp_mIf, wp_mYes, wp_itSeq, wp_itRng, wp_itEnum, wp_itZip, wp_lstRng, wp_tupRng, wp_part_none, wp_part_some, wp_mSl, wp_put_nm, wp_put_tup, wp_putAll_nil, wp_putAll_cons, wp_sNx, wp_sSet, wp_sPut, wp_temps_nil, wp_temps_cons, wp_setAll_nil, wp_setAll_cons, wp_sPar, wp_sDrop, wp_sRet, wp_sIf, wp_sFor, wp_sItem, wp_sApp, wp_sIns, wp_turn1, dat_fz, dat_ow, truth_int, truth_bool, truth_list, truth_tup, asBool_bool, intOf_int, seqOf_list, seqOf_tup, add_int, add_tup, add_list, sub_int, mul_int, mul_tup, mul_list, mod_int, fdiv_int, neg_int, lt_int, le_int, gt_int, ge_int, eq_int, ne_int, is_non, isnot_non, isNon, sl_list, sl_tup, len_list, len_tup, int_int, abs_int, max_2, max_3, min_2, min_3, tuple_list, tuple_tup, list_list, list_tup, app_D, ins_D, oIx_list, oIx_tup, getAt_0, getAt_1, getAt_2, getAt_3, putAt_0, putAt_1, putAt_2, ite_and, if_true, if_false, Bool.false_eq_true, ↓reduceIte, List.getElem?_cons_zero, List.getElem?_cons_succ, List.set_cons_zero, List.set_cons_succ, List.length_cons, List.length_nil, List.length_set, isOw_ow, isOw_fz, isOw_none, Nat.reduceAdd, Nat.reduceLT, Nat.reduceEqDiff, Nat.reduceSub, Int.reduceLT, Int.reduceLE, true_and, and_true, List.map_cons, List.map_nil, List.append_nil, List.nil_append, List.cons_append, List.replicate, wipeR, restore, noOw, List.all_cons, List.all_nil, Bool.not_false, Bool.not_true, Bool.and_true, Bool.and_self, szOk, Nat.reduceLeDiff, Option.getD_some, Option.getD_none, decide_eq_true_eq, Nat.zero_add, out0, List.length_map, flat1i]
    rfl
theorem law_known_sizes_ok {o : FK.D} {W : List (List Int)} (h : ∀ w ∈ W, w ≠ []) : wpF (e__law_known_sizes.f [.fz (.tuple [o, rowsD W])]) fun v _ => v = .fz (tupI (lastsP W)) := known_sizes_ok h
theorem goes_up_ok {w : List Int} {p : Nat} (h : p + 1 < w.length) : wpF (e_goes_up.f [.fz (tupI w), .fz (.int (p : Int))]) fun v _ => v = .fz (.bool (decide (w.getD p 0 < w.getD (p + 1) 0))) := by
  show wpF (fnOf 2 m_goes_up _) _
  rw [wpF_fnOf]
  unfold m_goes_up
  simp -implicitDefEqProofs only [wp_bnd, wp_ret, wp_lift, wpV_some, wpV_none, wpV_ite, wpV_map, wp_stop, wp_ite, wp_mC, wp_mV, wp_mMove, wp_peek, wp_setS, wp_chk, wp_chg', wp_mCall, wp_mCallR, wp_sAug, wp_sAugI, wp_sSeq, wp_mComp, wp_run_nm, wp_run_ex, wp_get_nm, wp_get_ex, wp_mUn, wp_mBin, wp_runs_nil, wp_runs_cons, wp_gets_nil, wp_gets_cons, wp_mFn, wp_it_nil, wp_it_one, wp_it_star, wp_mTup, wp_mLst, wp_mT, wp_mNot, wp_mAnd, wp_mOr, wp_mBl, wp_asT, wp_mAndV, wp_mOrV, wp_mNotB, wp_mIf, wp_mYes, wp_itSeq, wp_itRng, wp_itEnum, wp_itZip, wp_lstRng, wp_tupRng, wp_part_none, wp_part_some, wp_mSl, wp_put_nm, wp_put_tup, wp_putAll_nil, wp_putAll_cons, wp_sNx, wp_sSet, wp_sPut, wp_temps_nil, wp_temps_cons, wp_setAll_nil, wp_setAll_cons, wp_sPar, wp_sDrop, wp_sRet, wp_sIf, wp_sFor, wp_sItem, wp_sApp, wp_sIns, wp_turn1, dat_fz, dat_ow, truth_int, truth_bool, truth_list, truth_tup, asBool_bool, intOf_int, seqOf_list, seqOf_tup, add_int, add_tup, add_list, sub_int, mul_int, mul_tup, mul_list, mod_int, fdiv_int, neg_int, lt_int, le_int, gt_int, ge_int, eq_int, ne_int, is_non, isnot_non, isNon, sl_list, sl_tup, len_list, len_tup, int_int, abs_int, max_2, max_3, min_2, min_3, tuple_list, tuple_tup, list_list, list_tup, app_D, ins_D, oIx_list, oIx_tup, getAt_0, getAt_1, getAt_2, getAt_3, putAt_0, putAt_1, putAt_2, ite_and, if_true, if_false, Bool.false_eq_true, ↓reduceIte, List.getElem?_cons_zero, List.getElem?_cons_succ, List.set_cons_zero, List.set_cons_succ, List.length_cons, List.length_nil, List.length_set, isOw_ow, isOw_fz, isOw_none, Nat.reduceAdd, Nat.reduceLT, Nat.reduceEqDiff, Nat.reduceSub, Int.reduceLT, Int.reduceLE, true_and, and_true, List.map_cons, List.map_nil, List.append_nil, List.nil_append, List.cons_append, List.replicate, wipeR, restore, noOw, List.all_cons, List.all_nil, Bool.not_false, Bool.not_true, Bool.and_true, Bool.and_self, szOk, Nat.reduceLeDiff, Option.getD_some, Option.getD_none, decide_eq_true_eq, Nat.zero_add, out0, List.length_map, getAt_ints (w := w) (show (p : Int) + 1 = ((p + 1 : Nat) : Int) by omega) h, getAt_ints (w := w) (show (p : Int) = ((p : Nat) : Int) from rfl) (by omega)]
def okQ (p : Nat) (q : List Int × List Int) : Bool := !(decide (q.1.getD p 0 < q.1.getD (p + 1) 0) && !decide (q.2.getD p 0 < q.2.getD (p + 1) 0))
def nestB (m : Nat) (W : List (List Int)) : Bool := (List.range m).all fun p => (W.zip W.tail).all (okQ p)
section
variable {m : Nat}
theorem is_nested_ok {os : List FK.D} {W : List (List Int)} (ho : os.length = m) (hm : m ≤ 1000) (hL : Len m W) : wpF (e_is_nested.f [.fz (.tuple [.tuple os, rowsD W])]) fun v _ => v = .fz (.bool (nestB m W)) := by
  have hm3 : m ≤ 1000000 := by omega
  show wpF (fnOf 6 m_is_nested _) _
  rw [wpF_fnOf]
  unfold m_is_nested
  simp -implicitDefEqProofs only [wp_bnd, wp_ret, wp_lift, wpV_some, wpV_none, wpV_ite, wpV_map, wp_stop, wp_ite, wp_mC, wp_mV, wp_mMove, wp_peek, wp_setS, wp_chk, wp_chg', wp_mCall, wp_mCallR, wp_sAug, wp_sAugI, wp_sSeq, wp_mComp, wp_run_nm, wp_run_ex, wp_get_nm, wp_get_ex, wp_mUn, wp_mBin, wp_runs_nil, wp_runs_cons, wp_gets_nil, wp_gets_cons, wp_mFn, wp_it_nil, wp_it_one, wp_it_star, wp_mTup, wp_mLst, wp_mT, wp_mNot, wp_mAnd, wp_mOr, wp_mBl, wp_asT, wp_mAndV, wp_mOrV, wp_mNotB, wp_mIf, wp_mYes, wp_itSeq, wp_itRng, wp_itEnum, wp_itZip, wp_lstRng, wp_tupRng, wp_part_none, wp_part_some, wp_mSl, wp_put_nm, wp_put_tup, wp_putAll_nil, wp_putAll_cons, wp_sNx, wp_sSet, wp_sPut, wp_temps_nil, wp_temps_cons, wp_setAll_nil, wp_setAll_cons, wp_sPar, wp_sDrop, wp_sRet, wp_sIf, wp_sFor, wp_sItem, wp_sApp, wp_sIns, wp_turn1, dat_fz, dat_ow, truth_int, truth_bool, truth_list, truth_tup, asBool_bool, intOf_int, seqOf_list, seqOf_tup, add_int, add_tup, add_list, sub_int, mul_int, mul_tup, mul_list, mod_int, fdiv_int, neg_int, lt_int, le_int, gt_int, ge_int, eq_int, ne_int, is_non, isnot_non, isNon, sl_list, sl_tup, len_list, len_tup, int_int, abs_int, max_2, max_3, min_2, min_3, tuple_list, tuple_tup, list_list, list_tup, app_D, ins_D, oIx_list, oIx_tup, getAt_0, getAt_1, getAt_2, getAt_3, putAt_0, putAt_1, putAt_2, ite_and, if_true, if_false, Bool.false_eq_true, ↓reduceIte, List.getElem?_cons_zero, List.getElem?_cons_succ, List.set_cons_zero, List.set_cons_succ, List.length_cons, List.length_nil, List.length_set, isOw_ow, isOw_fz, isOw_none, Nat.reduceAdd, Nat.reduceLT, Nat.reduceEqDiff, Nat.reduceSub, Int.reduceLT, Int.reduceLE, true_and, and_true, List.map_cons, List.map_nil, List.append_nil, List.nil_append, List.cons_append, List.replicate, wipeR, restore, noOw, List.all_cons, List.all_nil, Bool.not_false, Bool.not_true, Bool.and_true, Bool.and_self, szOk, Nat.reduceLeDiff, Option.getD_some, Option.getD_none, decide_eq_true_eq, Nat.zero_add, out0, List.length_map, ho, rng_one hm3]
  refine wp_up (fun p ρ => (∀ p' < p, (W.zip W.tail).all (okQ p') = true) ∧ ∃ x3 x4 x5, ρ = [some (.fz (.tuple [.tuple os, rowsD W])), some (.fz (.tuple os)), some (.fz (rowsD W)), x3, x4, x5]) (fun p ρ hp h => ?_) (fun ρ h => ?_) ⟨fun p' h => by omega, _, _, _, rfl⟩
  · obtain ⟨hb, x3, x4, x5, rfl⟩ := h
    unfold b2_is_nested
    simp -implicitDefEqProofs only [wp_bnd, wp_ret, wp_lift, wpV_some, wpV_none, wpV_ite, wpV_map, wp_stop, wp_ite, wp_mC, wp_mV, wp_mMove, wp_peek, wp_setS, wp_chk, wp_chg', wp_mCall, wp_mCallR, wp_sAug, wp_sAugI, wp_sSeq, wp_mComp, wp_run_nm, wp_run_ex, wp_get_nm, wp_get_ex, wp_mUn, wp_mBin, wp_runs_nil, wp_runs_cons, wp_gets_nil, wp_gets_cons, wp_mFn, wp_it_nil, wp_it_one, wp_it_star, wp_mTup, wp_mLst, wp_mT, wp_mNot, wp_mAnd, wp_mOr, wp_mBl, wp_asT, wp_mAndV, wp_mOrV, wp_mNotB, wp_mIf, wp_mYes, wp_itSeq, wp_itRng, wp_itEnum, wp_itZip, wp_lstRng, wp_tupRng, wp_part_none, wp_part_some, wp_mSl, wp_put_nm, wp_put_tup, wp_putAll_nil, wp_putAll_cons, wp_sNx, wp_sSet, wp_sPut, wp_temps_nil, wp_temps_cons, wp_setAll_nil, wp_setAll_cons, wp_sPar, wp_sDrop, wp_sRet, wp_sIf, wp_sFor, wp_sItem, wp_sApp, wp_sIns, wp_turn1, dat_fz, dat_ow, truth_int, truth_bool, truth_list, truth_tup, asBool_bool, intOf_int, seqOf_list, seqOf_tup, add_int, add_tup, add_list, sub_int, mul_int, mul_tup, mul_list, mod_int, fdiv_int, neg_int, lt_int, le_int, gt_int, ge_int, eq_int, ne_int, is_non, isnot_non, isNon, sl_list, sl_tup, len_list, len_tup, int_int, abs_int, max_2, max_3, min_2, min_3, tuple_list, tuple_tup, list_list, list_tup, app_D, ins_D, oIx_list, oIx_tup, getAt_0, getAt_1, getAt_2, getAt_3, putAt_0, putAt_1, putAt_2, ite_and, if_true, if_false, Bool.false_eq_true, ↓reduceIte, List.getElem?_cons_zero, List.getElem?_cons_succ, List.set_cons_zero, List.set_cons_succ, List.length_cons, List.length_nil, List.length_set, isOw_ow, isOw_fz, isOw_none, Nat.reduceAdd, Nat.reduceLT, Nat.reduceEqDiff, Nat.reduceSub, Int.reduceLT, Int.reduceLE, true_and, and_true, List.map_cons, List.map_nil, List.append_nil, List.nil_append, List.cons_append, List.replicate, wipeR, restore, noOw, List.all_cons, List.all_nil, Bool.not_false, Bool.not_true, Bool.and_true, Bool.and_self, szOk, Nat.reduceLeDiff, Option.getD_some, Option.getD_none, decide_eq_true_eq, Nat.zero_add, out0, List.length_map, drop1]
    refine wp_zip (ea := tupI) (eb := tupI) (fun xs ys ρ => (W.zip W.tail).all (okQ p) = (xs.zip ys).all (okQ p) ∧ (∀ x ∈ xs, x ∈ W) ∧ (∀ y ∈ ys, y ∈ W) ∧ ∃ x4 x5, ρ = [some (.fz (.tuple [.tuple os, rowsD W])), some (.fz (.tuple os)), some (.fz (rowsD W)), some (.fz (.int (p : Int))), x4, x5]) (fun x xs y ys ρ h => ?_) (fun xs ys ρ hz h => ?_) ⟨rfl, fun _ h => h, fun _ h => List.mem_of_mem_tail h, _, _, rfl⟩
    · obtain ⟨he, hx, hy, x4, x5, rfl⟩ := h
      have lx := hL x (hx x (List.mem_cons_self ..))
      have ly := hL y (hy y (List.mem_cons_self ..))
      unfold b1_is_nested
      simp -implicitDefEqProofs only [wp_bnd, wp_ret, wp_lift, wpV_some, wpV_none, wpV_ite, wpV_map, wp_stop, wp_ite, wp_mC, wp_mV, wp_mMove, wp_peek, wp_setS, wp_chk, wp_chg', wp_mCall, wp_mCallR, wp_sAug, wp_sAugI, wp_sSeq, wp_mComp, wp_run_nm, wp_run_ex, wp_get_nm, wp_get_ex, wp_mUn, wp_mBin, wp_runs_nil, wp_runs_cons, wp_gets_nil, wp_gets_cons, wp_mFn, wp_it_nil, wp_it_one, wp_it_star, wp_mTup, wp_mLst, wp_mT, wp_mNot, wp_mAnd, wp_mOr, wp_mBl, wp_asT, wp_mAndV, wp_mOrV, wp_mNotB, wp_mIf, wp_mYes, wp_itSeq, wp_itRng, wp_itEnum, wp_itZip, wp_lstRng, wp_tupRng, wp_part_none, wp_part_some, wp_mSl, wp_put_nm, wp_put_tup, wp_putAll_nil, wp_putAll_cons, wp_sNx, wp_sSet, wp_sPut, wp_temps_nil, wp_temps_cons, wp_setAll_nil, wp_setAll_cons, wp_sPar, wp_sDrop, wp_sRet, wp_sIf, wp_sFor, wp_sItem, wp_sApp, wp_sIns, wp_turn1, dat_fz, dat_ow, truth_int, truth_bool, truth_list, truth_tup, asBool_bool, intOf_int, seqOf_list, seqOf_tup, add_int, add_tup, add_list, sub_int, mul_int, mul_tup, mul_list, mod_int, fdiv_int, neg_int, lt_int, le_int, gt_int, ge_int, eq_int, ne_int, is_non, isnot_non, isNon, sl_list, sl_tup, len_list, len_tup, int_int, abs_int, max_2, max_3, min_2, min_3, tuple_list, tuple_tup, list_list, list_tup, app_D, ins_D, oIx_list, oIx_tup, getAt_0, getAt_1, getAt_2, getAt_3, putAt_0, putAt_1, putAt_2, ite_and, if_true, if_false, Bool.false_eq_true, ↓reduceIte, List.getElem?_cons_zero, List.getElem?_cons_succ, List.set_cons_zero, List.set_cons_succ, List.length_cons, List.length_nil, List.length_set, isOw_ow, isOw_fz, isOw_none, Nat.reduceAdd, Nat.reduceLT, Nat.reduceEqDiff, Nat.reduceSub, Int.reduceLT, Int.reduceLE, true_and, and_true, List.map_cons, List.map_nil, List.append_nil, List.nil_append, List.cons_append, List.replicate, wipeR, restore, noOw, List.all_cons, List.all_nil, Bool.not_false, Bool.not_true, Bool.and_true, Bool.and_self, szOk, Nat.reduceLeDiff, Option.getD_some, Option.getD_none, decide_eq_true_eq, Nat.zero_add, out0, List.length_map]
      refine ⟨rfl, (goes_up_ok (w := x) (p := p) (by omega)).mono ?_⟩
      rintro _ _ rfl
      simp -implicitDefEqProofs only [wp_bnd, wp_ret, wp_lift, wpV_some, wpV_none, wpV_ite, wpV_map, wp_stop, wp_ite, wp_mC, wp_mV, wp_mMove, wp_peek, wp_setS, wp_chk, wp_chg', wp_mCall, wp_mCallR, wp_sAug, wp_sAugI, wp_sSeq, wp_mComp, wp_run_nm, wp_run_ex, wp_get_nm, wp_get_ex, wp_mUn, wp_mBin, wp_runs_nil, wp_runs_cons, wp_gets_nil, wp_gets_cons, wp_mFn, wp_it_nil, wp_it_one, wp_it_star, wp_mTup, wp_mLst, wp_mT, wp_mNot, wp_mAnd, wp_mOr, wp_mBl, wp_asT, wp_mAndV, wp_mOrV, wp_mNotB, wp_mIf, wp_mYes, wp_itSeq, wp_itRng, wp_itEnum, wp_itZip, wp_lstRng, wp_tupRng, wp_part_none, wp_part_some, wp_mSl, wp_put_nm, wp_put_tup, wp_putAll_nil, wp_putAll_cons, wp_sNx, wp_sSet, wp_sPut, wp_temps_nil, wp_temps_cons, wp_setAll_nil, wp_setAll_cons, wp_sPar, wp_sDrop, wp_sRet, wp_sIf, wp_sFor, wp_sItem, wp_sApp, wp_sIns, wp_turn1, dat_fz, dat_ow, truth_int, truth_bool, truth_list, truth_tup, asBool_bool, intOf_int, seqOf_list, seqOf_tup, add_int, add_tup, add_list, sub_int, mul_int, mul_tup, mul_list, mod_int, fdiv_int, neg_int, lt_int, le_int, gt_int, ge_int, eq_int, ne_int, is_non, isnot_non, isNon, sl_list, sl_tup, len_list, len_tup, int_int, abs_int, max_2, max_3, min_2, min_3, tuple_list, tuple_tup, list_list, list_tup, app_D, ins_D, oIx_list, oIx_tup, getAt_0, getAt_1, getAt_2, getAt_3, putAt_0, putAt_1, putAt_2, ite_and, if_true, if_false, Bool.false_eq_true, ↓reduceIte, List.getElem?_cons_zero, List.getElem?_cons_succ, List.set_cons_zero, List.set_cons_succ, List.length_cons, List.length_nil, List.length_set, isOw_ow, isOw_fz, isOw_none, Nat.reduceAdd, Nat.reduceLT, Nat.reduceEqDiff, Nat.reduceSub, Int.reduceLT, Int.reduceLE, true_and, and_true, List.map_cons, List.map_nil, List.append_nil, List.nil_append, List.cons_append, List.replicate, wipeR, restore, noOw, List.all_cons, List.all_nil, Bool.not_false, Bool.not_true, Bool.and_true, Bool.and_self, szOk, Nat.reduceLeDiff, Option.getD_some, Option.getD_none, decide_eq_true_eq, Nat.zero_add, out0, List.length_map]
      have ec : (((x :: xs).zip (y :: ys)).all (okQ p)) = (okQ p (x, y) && (xs.zip ys).all (okQ p)) := rfl
      by_cases c1 : x.getD p 0 < x.getD (p + 1) 0
      · rw [if_pos c1]
        refine ⟨rfl, (goes_up_ok (w := y) (p := p) (by omega)).mono ?_⟩
        rintro _ _ rfl
        simp -implicitDefEqProofs only [wp_bnd, wp_ret, wp_lift, wpV_some, wpV_none, wpV_ite, wpV_map, wp_stop, wp_ite, wp_mC, wp_mV, wp_mMove, wp_peek, wp_setS, wp_chk, wp_chg', wp_mCall, wp_mCallR, wp_sAug, wp_sAugI, wp_sSeq, wp_mComp, wp_run_nm, wp_run_ex, wp_get_nm, wp_get_ex, wp_mUn, wp_mBin, wp_runs_nil, wp_runs_cons, wp_gets_nil, wp_gets_cons, wp_mFn, wp_it_nil, wp_it_one, wp_it_star, wp_mTup, wp_mLst, wp_mT, wp_mNot, wp_mAnd, wp_mOr, wp_mBl, wp_asT, wp_mAndV, wp_mOrV, wp_mNotB, wp_mIf, wp_mYes, wp_itSeq, wp_itRng, wp_itEnum, wp_itZip, wp_lstRng, wp_tupRng, wp_part_none, wp_part_some, wp_mSl, wp_put_nm, wp_put_tup, wp_putAll_nil, wp_putAll_cons, wp_sNx, wp_sSet, wp_sPut, wp_temps_nil, wp_temps_cons, wp_setAll_nil, wp_setAll_cons, wp_sPar, wp_sDrop, wp_sRet, wp_sIf, wp_sFor, wp_sItem, wp_sApp, wp_sIns, wp_turn1, dat_fz, dat_ow, truth_int, truth_bool, truth_list, truth_tup, asBool_bool, intOf_int, seqOf_list, seqOf_tup, add_int, add_tup, add_list, sub_int, mul_int, mul_tup, mul_list, mod_int, fdiv_int, neg_int, lt_int, le_int, gt_int, ge_int, eq_int, ne_int, is_non, isnot_non, isNon, sl_list, sl_tup, len_list, len_tup, int_int, abs_int, max_2, max_3, min_2, min_3, tuple_list, tuple_tup, list_list, list_tup, app_D, ins_D, oIx_list, oIx_tup, getAt_0, getAt_1, getAt_2, getAt_3, putAt_0, putAt_1, putAt_2, ite_and, if_true, if_false, Bool.false_eq_true, ↓reduceIte, List.getElem?_cons_zero, List.getElem?_cons_succ, List.set_cons_zero, List.set_cons_succ, List.length_cons, List.length_nil, List.length_set, isOw_ow, isOw_fz, isOw_none, Nat.reduceAdd, Nat.reduceLT, Nat.reduceEqDiff, Nat.reduceSub, Int.reduceLT, Int.reduceLE, true_and, and_true, List.map_cons, List.map_nil, List.append_nil, List.nil_append, List.cons_append, List.replicate, wipeR, restore, noOw, List.all_cons, List.all_nil, Bool.not_false, Bool.not_true, Bool.and_true, Bool.and_self, szOk, Nat.reduceLeDiff, Option.getD_some, Option.getD_none, decide_eq_true_eq, Nat.zero_add, out0, List.length_map]
        by_cases c2 : y.getD p 0 < y.getD (p + 1) 0
        · have eo : okQ p (x, y) = true := by
            show (!(decide (x.getD p 0 < x.getD (p + 1) 0) && !decide (y.getD p 0 < y.getD (p + 1) 0))) = true
            rw [decide_eq_true c1, decide_eq_true c2]
            rfl
          simp only [c2, decide_true, Bool.not_true, Bool.false_eq_true, if_false]
          exact ⟨by rw [he, ec, eo, Bool.true_and], fun z hz => hx z (List.mem_cons_of_mem _ hz), fun z hz => hy z (List.mem_cons_of_mem _ hz), _, _, rfl⟩
        · have eo : okQ p (x, y) = false := by
            show (!(decide (x.getD p 0 < x.getD (p + 1) 0) && !decide (y.getD p 0 < y.getD (p + 1) 0))) = false
            rw [decide_eq_true c1, decide_eq_false c2]
            rfl
          simp only [c2, decide_false, Bool.not_false, if_true]
          have : nestB m W = false := by
            cases q : nestB m W with
            | false => rfl
            | true =>
              have := List.all_eq_true.mp q p (List.mem_range.mpr hp)
              rw [he, ec, eo] at this
              cases this
          rw [this]
      · rw [if_neg c1]
        have eo : okQ p (x, y) = true := by
            show (!(decide (x.getD p 0 < x.getD (p + 1) 0) && !decide (y.getD p 0 < y.getD (p + 1) 0))) = true
            rw [decide_eq_false c1, Bool.false_and]
            rfl
        exact ⟨by rw [he, ec, eo, Bool.true_and], fun z hz => hx z (List.mem_cons_of_mem _ hz), fun z hz => hy z (List.mem_cons_of_mem _ hz), _, _, rfl⟩
    · obtain ⟨he, hx, hy, x4, x5, rfl⟩ := h
      refine ⟨fun p' hp' => ?_, _, _, _, rfl⟩
      by_cases e : p' = p
      · rw [e, he]
        rcases hz with e | e <;> rw [e]
        · rfl
        · cases xs <;> rfl
      · exact hb p' (by omega)
  · obtain ⟨hb, x3, x4, x5, rfl⟩ := h
    simp -implicitDefEqProofs only [wp_bnd, wp_ret, wp_lift, wpV_some, wpV_none, wpV_ite, wpV_map, wp_stop, wp_ite, wp_mC, wp_mV, wp_mMove, wp_peek, wp_setS, wp_chk, wp_chg', wp_mCall, wp_mCallR, wp_sAug, wp_sAugI, wp_sSeq, wp_mComp, wp_run_nm, wp_run_ex, wp_get_nm, wp_get_ex, wp_mUn, wp_mBin, wp_runs_nil, wp_runs_cons, wp_gets_nil, wp_gets_cons, wp_mFn, wp_it_nil, wp_it_one, wp_it_star, wp_mTup, wp_mLst, wp_mT, wp_mNot, wp_mAnd, wp_mOr, wp_mBl, wp_asT, wp_mAndV, wp_mOrV, wp_mNotB, wp_mIf, wp_mYes, wp_itSeq, wp_itRng, wp_itEnum, wp_itZip, wp_lstRng, wp_tupRng, wp_part_none, wp_part_some, wp_mSl, wp_put_nm, wp_put_tup, wp_putAll_nil, wp_putAll_cons, wp_sNx, wp_sSet, wp_sPut, wp_temps_nil, wp_temps_cons, wp_setAll_nil, wp_setAll_cons, wp_sPar, wp_sDrop, wp_sRet, wp_sIf, wp_sFor, wp_sItem, wp_sApp, wp_sIns, wp_turn1, dat_fz, dat_ow, truth_int, truth_bool, truth_list, truth_tup, asBool_bool, intOf_int, seqOf_list, seqOf_tup, add_int, add_tup, add_list, sub_int, mul_int, mul_tup, mul_list, mod_int, fdiv_int, neg_int, lt_int, le_int, gt_int, ge_int, eq_int, ne_int, is_non, isnot_non, isNon, sl_list, sl_tup, len_list, len_tup, int_int, abs_int, max_2, max_3, min_2, min_3, tuple_list, tuple_tup, list_list, list_tup, app_D, ins_D, oIx_list, oIx_tup, getAt_0, getAt_1, getAt_2, getAt_3, putAt_0, putAt_1, putAt_2, ite_and, if_true, if_false, Bool.false_eq_true, ↓reduceIte, List.getElem?_cons_zero, List.getElem?_cons_succ, List.set_cons_zero, List.set_cons_succ, List.length_cons, List.length_nil, List.length_set, isOw_ow, isOw_fz, isOw_none, Nat.reduceAdd, Nat.reduceLT, Nat.reduceEqDiff, Nat.reduceSub, Int.reduceLT, Int.reduceLE, true_and, and_true, List.map_cons, List.map_nil, List.append_nil, List.nil_append, List.cons_append, List.replicate, wipeR, restore, noOw, List.all_cons, List.all_nil, Bool.not_false, Bool.not_true, Bool.and_true, Bool.and_self, szOk, Nat.reduceLeDiff, Option.getD_some, Option.getD_none, decide_eq_true_eq, Nat.zero_add, out0, List.length_map]
    have : nestB m W = true := List.all_eq_true.mpr fun p hp => hb p (List.mem_range.mp hp)
    rw [this]
/-- the law's own -/
def badL (q : List Int × List Int) (a : Nat) : Bool := decide (q.1.getD (a - 1) 0 < q.1.getD a 0) && decide (q.2.getD a 0 = q.2.getD (a - 1) 0)
def okL (m : Nat) (q : List Int × List Int) : Bool := !((List.range' 1 m).any (badL q))
def nestL (m : Nat) (W : List (List Int)) : Bool := (W.zip W.tail).all (okL m)
theorem flat_ifB {α : Type} {d : FK.D} (p : α → Bool) (L : List α) : (L.flatMap fun q => if p q = true then [d] else []).isEmpty = !(L.any p) := by
  rw [flat_if]
  congr 2
  funext q
  cases p q <;> rfl
theorem law_is_nested_ok {o : FK.D} {W : List (List Int)} (hm : m ≤ 1000) (hL : Len m W) : wpF (e__law_is_nested.f [.fz (.tuple [o, rowsD W])]) fun v _ => v = .fz (.bool (nestL m W)) := by
  have hm3 : m + 1 ≤ 1000000 := by omega
  show wpF (fnOf 4 m__law_is_nested _) _
  rw [wpF_fnOf]
  unfold m__law_is_nested
  simp -implicitDefEqProofs only [wp_bnd, wp_ret, wp_lift, wpV_some, wpV_none, wpV_ite, wpV_map, wp_stop, wp_ite, wp_mC, wp_mV, wp_mMove, wp_peek, wp_setS, wp_chk, wp_chg', wp_mCall, wp_mCallR, wp_sAug, wp_sAugI, wp_sSeq, wp_mComp, wp_run_nm, wp_run_ex, wp_get_nm, wp_get_ex, wp_mUn, wp_mBin, wp_runs_nil, wp_runs_cons, wp_gets_nil, wp_gets_cons, wp_mFn, wp_it_nil, wp_it_one, wp_it_star, wp_mTup, wp_mLst, wp_mT, wp_mNot, wp_mAnd, wp_mOr, wp_mBl, wp_asT, wp_mAndV, wp_mOrV, wp_mNotB, wp_mIf, wp_mYes, wp_itSeq, wp_itRng, wp_itEnum, wp_itZip, wp_lstRng, wp_tupRng, wp_part_none, wp_part_some, wp_mSl, wp_put_nm, wp_put_tup, wp_putAll_nil, wp_putAll_cons, wp_sNx, wp_sSet, wp_sPut, wp_temps_nil, wp_temps_cons, wp_setAll_nil, wp_setAll_cons, wp_sPar, wp_sDrop, wp_sRet, wp_sIf, wp_sFor, wp_sItem, wp_sApp, wp_sIns, wp_turn1, dat_fz, dat_ow, truth_int, truth_bool, truth_list, truth_tup, asBool_bool, intOf_int, seqOf_list, seqOf_tup, add_int, add_tup, add_list, sub_int, mul_int, mul_tup, mul_list, mod_int, fdiv_int, neg_int, lt_int, le_int, gt_int, ge_int, eq_int, ne_int, is_non, isnot_non, isNon, sl_list, sl_tup, len_list, len_tup, int_int, abs_int, max_2, max_3, min_2, min_3, tuple_list, tuple_tup, list_list, list_tup, app_D, ins_D, oIx_list, oIx_tup, getAt_0, getAt_1, getAt_2, getAt_3, putAt_0, putAt_1, putAt_2, ite_and, if_true, if_false, Bool.false_eq_true, ↓reduceIte, List.getElem?_cons_zero, List.getElem?_cons_succ, List.set_cons_zero, List.set_cons_succ, List.length_cons, List.length_nil, List.length_set, isOw_ow, isOw_fz, isOw_none, Nat.reduceAdd, Nat.reduceLT, Nat.reduceEqDiff, Nat.reduceSub, Int.reduceLT, Int.reduceLE, true_and, and_true, List.map_cons, List.map_nil, List.append_nil, List.nil_append, List.cons_append, List.replicate, wipeR, restore, noOw, List.all_cons, List.all_nil, Bool.not_false, Bool.not_true, Bool.and_true, Bool.and_self, szOk, Nat.reduceLeDiff, Option.getD_some, Option.getD_none, decide_eq_true_eq, Nat.zero_add, out0, List.length_map, drop1]
  rw [drop1]
  refine wp_zip (ea := tupI) (eb := tupI) (fun xs ys ρ => nestL m W = (xs.zip ys).all (okL m) ∧ (∀ x ∈ xs, x ∈ W) ∧ (∀ y ∈ ys, y ∈ W) ∧ ∃ x1 x2 x3, isOw (some x3) = false ∧ ρ = [some (.fz (.tuple [o, rowsD W])), x1, x2, x3]) (fun x xs y ys ρ h => ?_) (fun xs ys ρ hz h => ?_) ⟨rfl, fun _ h => h, fun _ h => List.mem_of_mem_tail h, none, none, none, rfl, rfl⟩
  · obtain ⟨he, hx, hy, x1, x2, x3, h3, rfl⟩ := h
    have lx := hL x (hx x (List.mem_cons_self ..))
    have ly := hL y (hy y (List.mem_cons_self ..))
    unfold b1__law_is_nested
    simp -implicitDefEqProofs only [wp_bnd, wp_ret, wp_lift, wpV_some, wpV_none, wpV_ite, wpV_map, wp_stop, wp_ite, wp_mC, wp_mV, wp_mMove, wp_peek, wp_setS, wp_chk, wp_chg', wp_mCall, wp_mCallR, wp_sAug, wp_sAugI, wp_sSeq, wp_mComp, wp_run_nm, wp_run_ex, wp_get_nm, wp_get_ex, wp_mUn, wp_mBin, wp_runs_nil, wp_runs_cons, wp_gets_nil, wp_gets_cons, wp_mFn, wp_it_nil, wp_it_one, wp_it_star, wp_mTup, wp_mLst, wp_mT, wp_mNot, wp_mAnd, wp_mOr, wp_mBl, wp_asT, wp_mAndV, wp_mOrV, wp_mNotB, wp_mIf, wp_mYes, wp_itSeq, wp_itRng, wp_itEnum, wp_itZip, wp_lstRng, wp_tupRng, wp_part_none, wp_part_some, wp_mSl, wp_put_nm, wp_put_tup, wp_putAll_nil, wp_putAll_cons, wp_sNx, wp_sSet, wp_sPut, wp_temps_nil, wp_temps_cons, wp_setAll_nil, wp_setAll_cons, wp_sPar, wp_sDrop, wp_sRet, wp_sIf, wp_sFor, wp_sItem, wp_sApp, wp_sIns, wp_turn1, dat_fz, dat_ow, truth_int, truth_bool, truth_list, truth_tup, asBool_bool, intOf_int, seqOf_list, seqOf_tup, add_int, add_tup, add_list, sub_int, mul_int, mul_tup, mul_list, mod_int, fdiv_int, neg_int, lt_int, le_int, gt_int, ge_int, eq_int, ne_int, is_non, isnot_non, isNon, sl_list, sl_tup, len_list, len_tup, int_int, abs_int, max_2, max_3, min_2, min_3, tuple_list, tuple_tup, list_list, list_tup, app_D, ins_D, oIx_list, oIx_tup, getAt_0, getAt_1, getAt_2, getAt_3, putAt_0, putAt_1, putAt_2, ite_and, if_true, if_false, Bool.false_eq_true, ↓reduceIte, List.getElem?_cons_zero, List.getElem?_cons_succ, List.set_cons_zero, List.set_cons_succ, List.length_cons, List.length_nil, List.length_set, isOw_ow, isOw_fz, isOw_none, Nat.reduceAdd, Nat.reduceLT, Nat.reduceEqDiff, Nat.reduceSub, Int.reduceLT, Int.reduceLE, true_and, and_true, List.map_cons, List.map_nil, List.append_nil, List.nil_append, List.cons_append, List.replicate, wipeR, restore, noOw, List.all_cons, List.all_nil, Bool.not_false, Bool.not_true, Bool.and_true, Bool.and_self, szOk, Nat.reduceLeDiff, Option.getD_some, Option.getD_none, decide_eq_true_eq, Nat.zero_add, out0, List.length_map, lx, rng_from1 hm3, h3, Nat.add_sub_cancel]
    refine wp_compP (enc := fun (k : Nat) => PyData.int (k : Int)) (g := fun k => if badL (x, y) k = true then [.int 1] else []) (fun k hk => ?_) ?_
    · have hk' := List.mem_range'_1.mp hk
      have e1 := getAt_ints (w := x) (i := (k : Int) - 1) (k := k - 1) (by omega) (by omega)
      have e2 := getAt_ints (w := x) (i := (k : Int)) (k := k) rfl (by omega)
      have e3 := getAt_ints (w := y) (i := (k : Int) - 1) (k := k - 1) (by omega) (by omega)
      have e4 := getAt_ints (w := y) (i := (k : Int)) (k := k) rfl (by omega)
      have eb : badL (x, y) k = (decide (x.getD (k - 1) 0 < x.getD k 0) && decide (y.getD k 0 = y.getD (k - 1) 0)) := rfl
      simp -implicitDefEqProofs only [wp_bnd, wp_ret, wp_lift, wpV_some, wpV_none, wpV_ite, wpV_map, wp_stop, wp_ite, wp_mC, wp_mV, wp_mMove, wp_peek, wp_setS, wp_chk, wp_chg', wp_mCall, wp_mCallR, wp_sAug, wp_sAugI, wp_sSeq, wp_mComp, wp_run_nm, wp_run_ex, wp_get_nm, wp_get_ex, wp_mUn, wp_mBin, wp_runs_nil, wp_runs_cons, wp_gets_nil, wp_gets_cons, wp_mFn, wp_it_nil, wp_it_one, wp_it_star, wp_mTup, wp_mLst, wp_mT, wp_mNot, wp_mAnd, wp_mOr, wp_mBl, wp_asT, wp_mAndV, wp_mOrV, wp_mNotB, wp_mIf, wp_mYes, wp_itSeq, wp_itRng, wp_itEnum, wp_itZip, wp_lstRng, wp_tupRng, wp_part_none, wp_part_some, wp_mSl, wp_put_nm, wp_put_tup, wp_putAll_nil, wp_putAll_cons, wp_sNx, wp_sSet, wp_sPut, wp_temps_nil, wp_temps_cons, wp_setAll_nil, wp_setAll_cons, wp_sPar, wp_sDrop, wp_sRet, wp_sIf, wp_sFor, wp_sItem, wp_sApp, wp_sIns, wp_turn1, dat_fz, dat_ow, truth_int, truth_bool, truth_list, truth_tup, asBool_bool, intOf_int, seqOf_list, seqOf_tup, add_int, add_tup, add_list, sub_int, mul_int, mul_tup, mul_list, mod_int, fdiv_int, neg_int, lt_int, le_int, gt_int, ge_int, eq_int, ne_int, is_non, isnot_non, isNon, sl_list, sl_tup, len_list, len_tup, int_int, abs_int, max_2, max_3, min_2, min_3, tuple_list, tuple_tup, list_list, list_tup, app_D, ins_D, oIx_list, oIx_tup, getAt_0, getAt_1, getAt_2, getAt_3, putAt_0, putAt_1, putAt_2, ite_and, if_true, if_false, Bool.false_eq_true, ↓reduceIte, List.getElem?_cons_zero, List.getElem?_cons_succ, List.set_cons_zero, List.set_cons_succ, List.length_cons, List.length_nil, List.length_set, isOw_ow, isOw_fz, isOw_none, Nat.reduceAdd, Nat.reduceLT, Nat.reduceEqDiff, Nat.reduceSub, Int.reduceLT, Int.reduceLE, true_and, and_true, List.map_cons, List.map_nil, List.append_nil, List.nil_append, List.cons_append, List.replicate, wipeR, restore, noOw, List.all_cons, List.all_nil, Bool.not_false, Bool.not_true, Bool.and_true, Bool.and_self, szOk, Nat.reduceLeDiff, Option.getD_some, Option.getD_none, decide_eq_true_eq, Nat.zero_add, out0, List.length_map, e1, e2, e3, e4]
      rw [eb]
      by_cases c1 : x.getD (k - 1) 0 < x.getD k 0
      · by_cases c2 : y.getD k 0 = y.getD (k - 1) 0
        · rw [if_pos c1, if_pos c2, decide_eq_true c1, decide_eq_true c2]
          rfl
        · rw [if_pos c1, if_neg c2, decide_eq_true c1, decide_eq_false c2]
          rfl
      · rw [if_neg c1, decide_eq_false c1]
        rfl
    · simp -implicitDefEqProofs only [wp_bnd, wp_ret, wp_lift, wpV_some, wpV_none, wpV_ite, wpV_map, wp_stop, wp_ite, wp_mC, wp_mV, wp_mMove, wp_peek, wp_setS, wp_chk, wp_chg', wp_mCall, wp_mCallR, wp_sAug, wp_sAugI, wp_sSeq, wp_mComp, wp_run_nm, wp_run_ex, wp_get_nm, wp_get_ex, wp_mUn, wp_mBin, wp_runs_nil, wp_runs_cons, wp_gets_nil, wp_gets_cons, wp_mFn, wp_it_nil, wp_it_one, wp_it_star, wp_mTup, wp_mLst, wp_mT, wp_mNot, wp_mAnd, wp_mOr, wp_mBl, wp_asT, wp_mAndV, wp_mOrV, wp_mNotB, wp_mIf, wp_mYes, wp_itSeq, wp_itRng, wp_itEnum, wp_itZip, wp_lstRng, wp_tupRng, wp_part_none, wp_part_some, wp_mSl, wp_put_nm, wp_put_tup, wp_putAll_nil, wp_putAll_cons, wp_sNx, wp_sSet, wp_sPut, wp_temps_nil, wp_temps_cons, wp_setAll_nil, wp_setAll_cons, wp_sPar, wp_sDrop, wp_sRet, wp_sIf, wp_sFor, wp_sItem, wp_sApp, wp_sIns, wp_turn1, dat_fz, dat_ow, truth_int, truth_bool, truth_list, truth_tup, asBool_bool, intOf_int, seqOf_list, seqOf_tup, add_int, add_tup, add_list, sub_int, mul_int, mul_tup, mul_list, mod_int, fdiv_int, neg_int, lt_int, le_int, gt_int, ge_int, eq_int, ne_int, is_non, isnot_non, isNon, sl_list, sl_tup, len_list, len_tup, int_int, abs_int, max_2, max_3, min_2, min_3, tuple_list, tuple_tup, list_list, list_tup, app_D, ins_D, oIx_list, oIx_tup, getAt_0, getAt_1, getAt_2, getAt_3, putAt_0, putAt_1, putAt_2, ite_and, if_true, if_false, Bool.false_eq_true, ↓reduceIte, List.getElem?_cons_zero, List.getElem?_cons_succ, List.set_cons_zero, List.set_cons_succ, List.length_cons, List.length_nil, List.length_set, isOw_ow, isOw_fz, isOw_none, Nat.reduceAdd, Nat.reduceLT, Nat.reduceEqDiff, Nat.reduceSub, Int.reduceLT, Int.reduceLE, true_and, and_true, List.map_cons, List.map_nil, List.append_nil, List.nil_append, List.cons_append, List.replicate, wipeR, restore, noOw, List.all_cons, List.all_nil, Bool.not_false, Bool.not_true, Bool.and_true, Bool.and_self, szOk, Nat.reduceLeDiff, Option.getD_some, Option.getD_none, decide_eq_true_eq, Nat.zero_add, out0, List.length_map, ne_nil, flat_ifB]
      cases hw : okL m (x, y) with
      | false =>
        have hz : (List.range' 1 m).any (badL (x, y)) = true := by
          have : (!((List.range' 1 m).any (badL (x, y)))) = false := hw
          simpa using this
        rw [hz]
        simp -implicitDefEqProofs only [wp_bnd, wp_ret, wp_lift, wpV_some, wpV_none, wpV_ite, wpV_map, wp_stop, wp_ite, wp_mC, wp_mV, wp_mMove, wp_peek, wp_setS, wp_chk, wp_chg', wp_mCall, wp_mCallR, wp_sAug, wp_sAugI, wp_sSeq, wp_mComp, wp_run_nm, wp_run_ex, wp_get_nm, wp_get_ex, wp_mUn, wp_mBin, wp_runs_nil, wp_runs_cons, wp_gets_nil, wp_gets_cons, wp_mFn, wp_it_nil, wp_it_one, wp_it_star, wp_mTup, wp_mLst, wp_mT, wp_mNot, wp_mAnd, wp_mOr, wp_mBl, wp_asT, wp_mAndV, wp_mOrV, wp_mNotB, wp_mIf, wp_mYes, wp_itSeq, wp_itRng, wp_itEnum, wp_itZip, wp_lstRng, wp_tupRng, wp_part_none, wp_part_some, wp_mSl, wp_put_nm, wp_put_tup, wp_putAll_nil, wp_putAll_cons, wp_sNx, wp_sSet, wp_sPut, wp_temps_nil, wp_temps_cons, wp_setAll_nil, wp_setAll_cons, wp_sPar, wp_sDrop, wp_sRet, wp_sIf, wp_sFor, wp_sItem, wp_sApp, wp_sIns, wp_turn1, dat_fz, dat_ow, truth_int, truth_bool, truth_list, truth_tup, asBool_bool, intOf_int, seqOf_list, seqOf_tup, add_int, add_tup, add_list, sub_int, mul_int, mul_tup, mul_list, mod_int, fdiv_int, neg_int, lt_int, le_int, gt_int, ge_int, eq_int, ne_int, is_non, isnot_non, isNon, sl_list, sl_tup, len_list, len_tup, int_int, abs_int, max_2, max_3, min_2, min_3, tuple_list, tuple_tup, list_list, list_tup, app_D, ins_D, oIx_list, oIx_tup, getAt_0, getAt_1, getAt_2, getAt_3, putAt_0, putAt_1, putAt_2, ite_and, if_true, if_false, Bool.false_eq_true, ↓reduceIte, List.getElem?_cons_zero, List.getElem?_cons_succ, List.set_cons_zero, List.set_cons_succ, List.length_cons, List.length_nil, List.length_set, isOw_ow, isOw_fz, isOw_none, Nat.reduceAdd, Nat.reduceLT, Nat.reduceEqDiff, Nat.reduceSub, Int.reduceLT, Int.reduceLE, true_and, and_true, List.map_cons, List.map_nil, List.append_nil, List.nil_append, List.cons_append, List.replicate, wipeR, restore, noOw, List.all_cons, List.all_nil, Bool.not_false, Bool.not_true, Bool.and_true, Bool.and_self, szOk, Nat.reduceLeDiff, Option.getD_some, Option.getD_none, decide_eq_true_eq, Nat.zero_add, out0, List.length_map]
        rw [he]
        show Val.fz (.bool false) = Val.fz (.bool (okL m (x, y) && (xs.zip ys).all (okL m)))
        rw [hw]; rfl
      | true =>
        have hz : (List.range' 1 m).any (badL (x, y)) = false := by
          have : (!((List.range' 1 m).any (badL (x, y)))) = true := hw
          simpa using this
        rw [hz]
        simp -implicitDefEqProofs only [wp_bnd, wp_ret, wp_lift, wpV_some, wpV_none, wpV_ite, wpV_map, wp_stop, wp_ite, wp_mC, wp_mV, wp_mMove, wp_peek, wp_setS, wp_chk, wp_chg', wp_mCall, wp_mCallR, wp_sAug, wp_sAugI, wp_sSeq, wp_mComp, wp_run_nm, wp_run_ex, wp_get_nm, wp_get_ex, wp_mUn, wp_mBin, wp_runs_nil, wp_runs_cons, wp_gets_nil, wp_gets_cons, wp_mFn, wp_it_nil, wp_it_one, wp_it_star, wp_mTup, wp_mLst, wp_mT, wp_mNot, wp_mAnd, wp_mOr, wp_mBl, wp_asT, wp_mAndV, wp_mOrV, wp_mNotB, wp_mIf, wp_mYes, wp_itSeq, wp_itRng, wp_itEnum, wp_itZip, wp_lstRng, wp_tupRng, wp_part_none, wp_part_some, wp_mSl, wp_put_nm, wp_put_tup, wp_putAll_nil, wp_putAll_cons, wp_sNx, wp_sSet, wp_sPut, wp_temps_nil, wp_temps_cons, wp_setAll_nil, wp_setAll_cons, wp_sPar, wp_sDrop, wp_sRet, wp_sIf, wp_sFor, wp_sItem, wp_sApp, wp_sIns, wp_turn1, dat_fz, dat_ow, truth_int, truth_bool, truth_list, truth_tup, asBool_bool, intOf_int, seqOf_list, seqOf_tup, add_int, add_tup, add_list, sub_int, mul_int, mul_tup, mul_list, mod_int, fdiv_int, neg_int, lt_int, le_int, gt_int, ge_int, eq_int, ne_int, is_non, isnot_non, isNon, sl_list, sl_tup, len_list, len_tup, int_int, abs_int, max_2, max_3, min_2, min_3, tuple_list, tuple_tup, list_list, list_tup, app_D, ins_D, oIx_list, oIx_tup, getAt_0, getAt_1, getAt_2, getAt_3, putAt_0, putAt_1, putAt_2, ite_and, if_true, if_false, Bool.false_eq_true, ↓reduceIte, List.getElem?_cons_zero, List.getElem?_cons_succ, List.set_cons_zero, List.set_cons_succ, List.length_cons, List.length_nil, List.length_set, isOw_ow, isOw_fz, isOw_none, Nat.reduceAdd, Nat.reduceLT, Nat.reduceEqDiff, Nat.reduceSub, Int.reduceLT, Int.reduceLE, true_and, and_true, List.map_cons, List.map_nil, List.append_nil, List.nil_append, List.cons_append, List.replicate, wipeR, restore, noOw, List.all_cons, List.all_nil, Bool.not_false, Bool.not_true, Bool.and_true, Bool.and_self, szOk, Nat.reduceLeDiff, Option.getD_some, Option.getD_none, decide_eq_true_eq, Nat.zero_add, out0, List.length_map]
        refine ⟨?_, fun z hz => hx z (List.mem_cons_of_mem _ hz), fun z hz => hy z (List.mem_cons_of_mem _ hz), _, _, _, h3, rfl⟩
        rw [he]
        show (okL m (x, y) && (xs.zip ys).all (okL m)) = _
        rw [hw]; rfl
  · obtain ⟨he, hx, hy, x1, x2, x3, h3, rfl⟩ := h
    simp -implicitDefEqProofs only [wp_bnd, wp_ret, wp_lift, wpV_some, wpV_none, wpV_ite, wpV_map, wp_stop, wp_ite, wp_mC, wp_mV, wp_mMove, wp_peek, wp_setS, wp_chk, wp_chg', wp_mCall, wp_mCallR, wp_sAug, wp_sAugI, wp_sSeq, wp_mComp, wp_run_nm, wp_run_ex, wp_get_nm, wp_get_ex, wp_mUn, wp_mBin, wp_runs_nil, wp_runs_cons, wp_gets_nil, wp_gets_cons, wp_mFn, wp_it_nil, wp_it_one, wp_it_star, wp_mTup, wp_mLst, wp_mT, wp_mNot, wp_mAnd, wp_mOr, wp_mBl, wp_asT, wp_mAndV, wp_mOrV, wp_mNotB, wp_mIf, wp_mYes, wp_itSeq, wp_itRng, wp_itEnum, wp_itZip, wp_lstRng, wp_tupRng, wp_part_none, wp_part_some, wp_mSl, wp_put_nm, wp_put_tup, wp_putAll_nil, wp_putAll_cons, wp_sNx, wp_sSet, wp_sPut, wp_temps_nil, wp_temps_cons, wp_setAll_nil, wp_setAll_cons, wp_sPar, wp_sDrop, wp_sRet, wp_sIf, wp_sFor, wp_sItem, wp_sApp, wp_sIns, wp_turn1, dat_fz, dat_ow, truth_int, truth_bool, truth_list, truth_tup, asBool_bool, intOf_int, seqOf_list, seqOf_tup, add_int, add_tup, add_list, sub_int, mul_int, mul_tup, mul_list, mod_int, fdiv_int, neg_int, lt_int, le_int, gt_int, ge_int, eq_int, ne_int, is_non, isnot_non, isNon, sl_list, sl_tup, len_list, len_tup, int_int, abs_int, max_2, max_3, min_2, min_3, tuple_list, tuple_tup, list_list, list_tup, app_D, ins_D, oIx_list, oIx_tup, getAt_0, getAt_1, getAt_2, getAt_3, putAt_0, putAt_1, putAt_2, ite_and, if_true, if_false, Bool.false_eq_true, ↓reduceIte, List.getElem?_cons_zero, List.getElem?_cons_succ, List.set_cons_zero, List.set_cons_succ, List.length_cons, List.length_nil, List.length_set, isOw_ow, isOw_fz, isOw_none, Nat.reduceAdd, Nat.reduceLT, Nat.reduceEqDiff, Nat.reduceSub, Int.reduceLT, Int.reduceLE, true_and, and_true, List.map_cons, List.map_nil, List.append_nil, List.nil_append, List.cons_append, List.replicate, wipeR, restore, noOw, List.all_cons, List.all_nil, Bool.not_false, Bool.not_true, Bool.and_true, Bool.and_self, szOk, Nat.reduceLeDiff, Option.getD_some, Option.getD_none, decide_eq_true_eq, Nat.zero_add, out0, List.length_map]
    rw [he]
    rcases hz with e | e <;> rw [e]
    · rfl
    · cases xs <;> rfl
theorem mono_get : ∀ {w : List Int} {p : Nat}, mono w → p + 1 < w.length → w.getD p 0 ≤ w.getD (p + 1) 0
  | x :: y :: w, 0, h, _ => h.1
  | x :: y :: w, p + 1, h, hp => by
    have := mono_get (w := y :: w) (p := p) h.2 (by simpa using hp)
    exact this
  | [x], p, _, hp => by simp at hp
  | [], p, _, hp => by simp at hp
theorem nest_eq {W : List (List Int)} (hW : ∀ w ∈ W, w.length = m + 1 ∧ mono w) : nestB m W = nestL m W := by
  rw [Bool.eq_iff_iff]
  unfold nestB nestL
  simp only [List.all_eq_true, List.mem_range]
  have key : ∀ q ∈ W.zip W.tail, ∀ p, p < m → (okQ p q = true ↔ badL q (p + 1) = false) := by
    intro q hq p hp
    have h2 := hW q.2 (List.mem_of_mem_tail (List.of_mem_zip hq).2)
    have hm := mono_get (p := p) h2.2 (by omega)
    show (!(decide (q.1.getD p 0 < q.1.getD (p + 1) 0) && !decide (q.2.getD p 0 < q.2.getD (p + 1) 0))) = true ↔ (decide (q.1.getD p 0 < q.1.getD (p + 1) 0) && decide (q.2.getD (p + 1) 0 = q.2.getD p 0)) = false
    by_cases c1 : q.1.getD p 0 < q.1.getD (p + 1) 0
    · by_cases c2 : q.2.getD p 0 < q.2.getD (p + 1) 0
      · rw [decide_eq_true c1, decide_eq_true c2, decide_eq_false (by omega)]; simp
      · rw [decide_eq_true c1, decide_eq_false c2, decide_eq_true (by omega)]; simp
    · rw [decide_eq_false c1]; simp
  constructor
  · intro h q hq
    show (!((List.range' 1 m).any (badL q))) = true
    rw [Bool.not_eq_true', List.any_eq_false]
    intro a ha
    have ha' := List.mem_range'_1.mp ha
    have := (key q hq (a - 1) (by omega)).mp (h (a - 1) (by omega) q hq)
    rw [show a - 1 + 1 = a by omega] at this
    simp [this]
  · intro h p hp q hq
    refine (key q hq p hp).mpr ?_
    have h1 : (!((List.range' 1 m).any (badL q))) = true := h q hq
    rw [Bool.not_eq_true', List.any_eq_false] at h1
    have := h1 (p + 1) (List.mem_range'_1.mpr ⟨by omega, by omega⟩)
    simpa using this
end
end FW

/-! FwH: rows of zeros can be tightened; draws. -/
namespace FW
open PySem FK
def ubF (s : Int) (p : Nat) : Nat → List Int
  | 0 => []
  | n + 1 => min (p : Int) s :: ubF s (p + 1) n
section
variable {s s' : Int}
theorem ub_len : ∀ (n p : Nat), (ubF s p n).length = n
  | 0, _ => rfl
  | n + 1, p => by
    show (ubF s (p + 1) n).length + 1 = n + 1
    rw [ub_len n]
theorem ub_mono : ∀ (n p : Nat), mono (ubF s p n)
  | 0, _ => trivial
  | 1, _ => trivial
  | n + 2, p => ⟨by push_cast; omega, ub_mono (n + 1) (p + 1)⟩
theorem ub_lip : ∀ (n p : Nat), lip (ubF s p n)
  | 0, _ => trivial
  | 1, _ => trivial
  | n + 2, p => ⟨by push_cast; omega, ub_lip (n + 1) (p + 1)⟩
theorem ub_nn (h : 0 ≤ s) : ∀ (n p : Nat), nn 0 (ubF s p n)
  | 0, _ => trivial
  | n + 1, p => ⟨by omega, ub_nn h n (p + 1)⟩
theorem ub_low : ∀ (n p : Nat) (c : Int), c ≤ (p : Int) → c + (n : Int) - 1 ≤ s → low c (ubF s p n)
  | 0, _, _, _, _ => trivial
  | n + 1, p, c, h, g => ⟨by push_cast at g; omega, ub_low n (p + 1) (c + 1) (by push_cast; omega) (by push_cast at g; omega)⟩
theorem ub_leg (h : s ≤ s') : ∀ (n p : Nat), leg (s' - s) (ubF s' p n) (ubF s p n)
  | 0, _ => trivial
  | n + 1, p => ⟨by omega, ub_leg h n (p + 1)⟩
theorem ub_le2 (h : s ≤ s') : ∀ (n p : Nat), le2 (ubF s p n) (ubF s' p n)
  | 0, _ => trivial
  | n + 1, p => ⟨by omega, ub_le2 h n (p + 1)⟩
theorem ub_zero (h : 0 ≤ s) : ∀ (n p : Nat), le2 (List.replicate n 0) (ubF s p n)
  | 0, _ => trivial
  | n + 1, p => ⟨by omega, ub_zero h n (p + 1)⟩
theorem leg_le2 : ∀ {g : Int} {a b c : List Int}, le2 a b → leg g b c → leg g a c
  | _, [], [], [], _, _ => trivial
  | g, x :: xs, y :: ys, z :: zs, h, k => ⟨by have := h.1; have := k.1; omega, leg_le2 h.2 k.2⟩
  | _, [], [], _ :: _, _, k => k.elim
  | _, [], _ :: _, _, h, _ => h.elim
  | _, _ :: _, [], _, h, _ => h.elim
  | _, _ :: _, _ :: _, [], _, k => k.elim
theorem ub_okW : ∀ {w : List Int} {p : Nat}, le2 w (ubF s p w.length) → (w.zipIdx p).any (fun q => decide (min (q.2 : Int) s < q.1)) = false
  | [], _, _ => rfl
  | x :: w, p, h => by
    rw [List.zipIdx_cons, List.any_cons, ub_okW (w := w) (p := p + 1) h.2, Bool.or_false]
    have := h.1
    exact decide_eq_false (by omega)
end
section
variable {m : Nat}
abbrev ub (m : Nat) (s : Int) : List Int := ubF s 0 (m + 1)
theorem okW_of {w : List Int} {s : Int} (h : le2 w (ub m s)) : okW w s = true := by
  have e : w.length = m + 1 := by rw [le2_len h, ub_len]
  unfold okW
  rw [ub_okW (p := 0) (by rw [e]; exact h)]
  rfl
/-- all under the bounds -/
def Und (m : Nat) : List Int → List (List Int) → Prop
  | [], [] => True
  | s :: ss, w :: ws => le2 w (ub m s) ∧ Und m ss ws
  | _, _ => False
theorem und_ok : ∀ {ss : List Int} {ws : List (List Int)}, Und m ss ws → okP ws ss = true
  | [], [], _ => rfl
  | s :: ss, w :: ws, h => by
    rw [okP_cons, okW_of h.1, und_ok h.2]; rfl
  | [], _ :: _, h => h.elim
  | _ :: _, [], h => h.elim
abbrev zerosP (m : Nat) : List Int := List.replicate (m + 1) 0
theorem und_up : ∀ {ss : List Int} {p : List Int} {s : Int}, 0 ≤ s → upF s ss → (∀ x ∈ ss, x ≤ (m : Int)) → le2 p (ub m s) → Und m ss (upGo p (stepsP (List.replicate ss.length (zerosP m)) ss))
  | [], _, _, _, _, _, _ => trivial
  | s' :: ss, p, s, h0, u, hm, hp => by
    have hs := hm s' (List.mem_cons_self ..)
    have h1 : le2 (stepP (zerosP m) s') (ub m s') := by
      refine stepP_least ⟨ub_mono _ _, ub_lip _ _, ub_nn (by have := u.1; omega) _ _, ub_low _ _ _ ?_ ?_⟩ (ub_zero (by have := u.1; omega) _ _)
      · rw [List.length_replicate]; push_cast; omega
      · rw [List.length_replicate]; push_cast; omega
    have h2 : le2 (mx p (stepP (zerosP m) s')) (ub m s') := mx_le (le2_trans hp (ub_le2 u.1 _ _)) h1
    exact ⟨h2, und_up (by have := u.1; omega) u.2 (fun x hx => hm x (List.mem_cons_of_mem _ hx)) h2⟩
theorem und_dn : ∀ {ss : List Int} {ws : List (List Int)} {s : Int} {w : List Int}, upF s ss → le2 w (ub m s) → Und m ss ws → ∃ v vs, dnP (s :: ss) (w :: ws) = v :: vs ∧ le2 v (ub m s) ∧ Und m ss vs
  | [], [], s, w, _, h, _ => ⟨w, [], dnP_one s w, h, trivial⟩
  | s' :: ss, w' :: ws, s, w, u, h, k => by
    obtain ⟨v, vs, h1, h2, h3⟩ := und_dn u.2 k.1 k.2
    exact ⟨_, _, dnP_cons s s' ss w w' ws h1, mxg_le h (leg_le2 h2 (ub_leg u.1 _ _)), h2, h3⟩
  | [], _ :: _, _, _, _, _, h => h.elim
  | _ :: _, [], _, _, _, _, h => h.elim
theorem last_le : ∀ {s : Int} {ss : List Int} {c : Int}, (∀ x ∈ s :: ss, x ≤ c) → (s :: ss).getLast (List.cons_ne_nil _ _) ≤ c := fun h => h _ (List.getLast_mem _)
theorem zeros_some {ss : List Int} (h0 : ss ≠ []) (u : upF 0 ss) (hm : ∀ x ∈ ss, x ≤ (m : Int)) : ∃ W, tightP (List.replicate ss.length (zerosP m)) ss = some W := by
  obtain ⟨s, ss, rfl⟩ := List.exists_cons_of_ne_nil h0
  have h1 : le2 (stepP (zerosP m) s) (ub m s) := by
    have hs := hm s (List.mem_cons_self ..)
    refine stepP_least ⟨ub_mono _ _, ub_lip _ _, ub_nn (by have := u.1; omega) _ _, ub_low _ _ _ ?_ ?_⟩ (ub_zero (by have := u.1; omega) _ _)
    · rw [List.length_replicate]; push_cast; omega
    · rw [List.length_replicate]; push_cast; omega
  have h2 := und_up (m := m) u.1 u.2 (fun x hx => hm x (List.mem_cons_of_mem _ hx)) h1
  obtain ⟨v, vs, e, h3, h4⟩ := und_dn u.2 h1 h2
  have ew : wordsP (List.replicate (s :: ss).length (zerosP m)) (s :: ss) = v :: vs := e
  have ok : okP (v :: vs) (s :: ss) = true := und_ok (m := m) ⟨h3, h4⟩
  refine ⟨v :: vs, ?_⟩
  show (if areP (s :: ss) (((zerosP m).length : Int) - 1) && okP (wordsP (List.replicate (s :: ss).length (zerosP m)) (s :: ss)) (s :: ss) then some (wordsP (List.replicate (s :: ss).length (zerosP m)) (s :: ss)) else none) = _
  have ha : areP (s :: ss) (((zerosP m).length : Int) - 1) = true := by
    rw [areP_cons, upB_iff.mpr u.2, List.length_replicate, Bool.and_true, decide_eq_false (by have := u.1; omega), Bool.false_or, decide_eq_false (by
      have := last_le hm
      push_cast
      omega)]
    rfl
  rw [ew, ok, ha]
  rfl
end
/-! ### draws -/
def In (lo hi : Int) (xs : List FK.D) : Prop := ∀ x ∈ xs, ∃ i, x = PyData.int i ∧ lo ≤ i ∧ i ≤ hi
theorem in_nil {lo hi : Int} : In lo hi [] := fun _ h => by cases h
theorem in_cons {lo hi i : Int} {xs : List FK.D} (h : lo ≤ i ∧ i ≤ hi) (t : In lo hi xs) : In lo hi (PyData.int i :: xs) := fun x hx => by
  rcases List.mem_cons.mp hx with rfl | hx
  · exact ⟨i, rfl, h⟩
  · exact t x hx
theorem tk {b : Bag} (hb : b.cells.length ≤ 1000) {n : Int} (h0 : 0 < n) (h1 : n < 1073741824) : wpF (e__law_take.f [.ow b.d, .fz (.int n)]) fun v o => ∃ k, ∃ b' : Bag, 0 ≤ k ∧ k < n ∧ v = .fz (.int k) ∧ o = some b'.d ∧ b'.cells.length ≤ 1000 :=
  (take_ok b n hb h0 h1).mono fun v o ⟨k, b', h1, h2, h3, h4, h5⟩ => ⟨k, b', h1, h2, h3, h4, by rw [h5]; exact hb⟩
theorem oneI {b : Bag} (hb : b.cells.length ≤ 1000) {xs : List FK.D} {lo hi : Int} (h : In lo hi xs) (h0 : xs ≠ []) (h1 : xs.length < 1073741824) : wpF (e__law_one.f [.ow b.d, .fz (.list xs)]) fun v o => ∃ i, ∃ b' : Bag, lo ≤ i ∧ i ≤ hi ∧ v = .fz (.int i) ∧ o = some b'.d ∧ b'.cells.length ≤ 1000 :=
  (one_ok b xs hb h0 h1).mono fun v o ⟨x, b', hx, h3, h4, h5⟩ => by
    obtain ⟨i, rfl, k⟩ := h x hx
    exact ⟨i, b', k.1, k.2, h3, h4, by rw [h5]; exact hb⟩
theorem mixed_ok {b : Bag} (hb : b.cells.length ≤ 1000) {xs : List FK.D} (h1 : xs.length ≤ 1000) : wpF (e__law_mixed.f [.ow b.d, .fz (.list xs)]) fun v o => ∃ ys, ∃ b' : Bag, v = .ow ys ∧ ys.length = xs.length ∧ o = some b'.d ∧ b'.cells.length ≤ 1000 := by
  show wpF (fnOf 4 m__law_mixed _) _
  rw [wpF_fnOf]
  unfold m__law_mixed
  simp -implicitDefEqProofs only [wp_bnd, wp_ret, wp_lift, wpV_some, wpV_none, wpV_ite, wpV_map, wp_stop, wp_ite, wp_mC, wp_mV, wp_mMove, wp_peek, wp_setS, wp_chk, wp_chg', wp_mCall, wp_mCallR, wp_sAug, wp_sAugI, wp_sSeq, wp_mComp, wp_run_nm, wp_run_ex, wp_get_nm, wp_get_ex, wp_mUn, wp_mBin, wp_runs_nil, wp_runs_cons, wp_gets_nil, wp_gets_cons, wp_mFn, wp_it_nil, wp_it_one, wp_it_star, wp_mTup, wp_mLst, wp_mT, wp_mNot, wp_mAnd, wp_mOr, wp_mBl, wp_asT, wp_mAndV, wp_mOrV, wp_mNotB, wp_mIf, wp_mYes, wp_itSeq, wp_itRng, wp_itEnum, wp_itZip, wp_lstRng, wp_tupRng, wp_part_none, wp_part_some, wp_mSl, wp_put_nm, wp_put_tup, wp_putAll_nil, wp_putAll_cons, wp_sNx, wp_sSet, wp_sPut, wp_temps_nil, wp_temps_cons, wp_setAll_nil, wp_setAll_cons, wp_sPar, wp_sDrop, wp_sRet, wp_sIf, wp_sFor, wp_sItem, wp_sApp, wp_sIns, wp_turn1, dat_fz, dat_ow, truth_int, truth_bool, truth_list, truth_tup, asBool_bool, intOf_int, seqOf_list, seqOf_tup, add_int, add_tup, add_list, sub_int, mul_int, mul_tup, mul_list, mod_int, fdiv_int, neg_int, lt_int, le_int, gt_int, ge_int, eq_int, ne_int, is_non, isnot_non, isNon, sl_list, sl_tup, len_list, len_tup, int_int, abs_int, max_2, max_3, min_2, min_3, tuple_list, tuple_tup, list_list, list_tup, app_D, ins_D, oIx_list, oIx_tup, getAt_0, getAt_1, getAt_2, getAt_3, putAt_0, putAt_1, putAt_2, ite_and, if_true, if_false, Bool.false_eq_true, ↓reduceIte, List.getElem?_cons_zero, List.getElem?_cons_succ, List.set_cons_zero, List.set_cons_succ, List.length_cons, List.length_nil, List.length_set, isOw_ow, isOw_fz, isOw_none, Nat.reduceAdd, Nat.reduceLT, Nat.reduceEqDiff, Nat.reduceSub, Int.reduceLT, Int.reduceLE, true_and, and_true, List.map_cons, List.map_nil, List.append_nil, List.nil_append, List.cons_append, List.replicate, wipeR, restore, noOw, List.all_cons, List.all_nil, Bool.not_false, Bool.not_true, Bool.and_true, Bool.and_self, szOk, Nat.reduceLeDiff, Option.getD_some, Option.getD_none, decide_eq_true_eq, Nat.zero_add, out0, List.length_map]
  have hx : xs = xs.map id := (List.map_id xs).symm
  rw [show forL (Tgt.nm 3) b1__law_mixed xs = forL (Tgt.nm 3) b1__law_mixed (xs.map id) by rw [List.map_id]]
  refine wp_forL (enc := id) (fun done rest ρ => ∃ ys, ∃ b' : Bag, ∃ x3, ys.length = done.length ∧ done ++ rest = xs ∧ b'.cells.length ≤ 1000 ∧ ρ = [some (.ow b'.d), some (.fz (.list xs)), some (.ow ys), x3]) (fun done a rest ρ h => ?_) (fun done ρ h => ?_) xs [] _ ⟨[], b, none, rfl, rfl, hb, rfl⟩
  · obtain ⟨ys, b', x3, e1, e2, hb', rfl⟩ := h
    have lx : done.length + (a :: rest).length = xs.length := by rw [← e2, List.length_append]
    rw [List.length_cons] at lx
    have ly : ys.length < 16777216 := by omega
    unfold b1__law_mixed
    simp -implicitDefEqProofs only [wp_bnd, wp_ret, wp_lift, wpV_some, wpV_none, wpV_ite, wpV_map, wp_stop, wp_ite, wp_mC, wp_mV, wp_mMove, wp_peek, wp_setS, wp_chk, wp_chg', wp_mCall, wp_mCallR, wp_sAug, wp_sAugI, wp_sSeq, wp_mComp, wp_run_nm, wp_run_ex, wp_get_nm, wp_get_ex, wp_mUn, wp_mBin, wp_runs_nil, wp_runs_cons, wp_gets_nil, wp_gets_cons, wp_mFn, wp_it_nil, wp_it_one, wp_it_star, wp_mTup, wp_mLst, wp_mT, wp_mNot, wp_mAnd, wp_mOr, wp_mBl, wp_asT, wp_mAndV, wp_mOrV, wp_mNotB, wp_mIf, wp_mYes, wp_itSeq, wp_itRng, wp_itEnum, wp_itZip, wp_lstRng, wp_tupRng, wp_part_none, wp_part_some, wp_mSl, wp_put_nm, wp_put_tup, wp_putAll_nil, wp_putAll_cons, wp_sNx, wp_sSet, wp_sPut, wp_temps_nil, wp_temps_cons, wp_setAll_nil, wp_setAll_cons, wp_sPar, wp_sDrop, wp_sRet, wp_sIf, wp_sFor, wp_sItem, wp_sApp, wp_sIns, wp_turn1, dat_fz, dat_ow, truth_int, truth_bool, truth_list, truth_tup, asBool_bool, intOf_int, seqOf_list, seqOf_tup, add_int, add_tup, add_list, sub_int, mul_int, mul_tup, mul_list, mod_int, fdiv_int, neg_int, lt_int, le_int, gt_int, ge_int, eq_int, ne_int, is_non, isnot_non, isNon, sl_list, sl_tup, len_list, len_tup, int_int, abs_int, max_2, max_3, min_2, min_3, tuple_list, tuple_tup, list_list, list_tup, app_D, ins_D, oIx_list, oIx_tup, getAt_0, getAt_1, getAt_2, getAt_3, putAt_0, putAt_1, putAt_2, ite_and, if_true, if_false, Bool.false_eq_true, ↓reduceIte, List.getElem?_cons_zero, List.getElem?_cons_succ, List.set_cons_zero, List.set_cons_succ, List.length_cons, List.length_nil, List.length_set, isOw_ow, isOw_fz, isOw_none, Nat.reduceAdd, Nat.reduceLT, Nat.reduceEqDiff, Nat.reduceSub, Int.reduceLT, Int.reduceLE, true_and, and_true, List.map_cons, List.map_nil, List.append_nil, List.nil_append, List.cons_append, List.replicate, wipeR, restore, noOw, List.all_cons, List.all_nil, Bool.not_false, Bool.not_true, Bool.and_true, Bool.and_self, szOk, Nat.reduceLeDiff, Option.getD_some, Option.getD_none, decide_eq_true_eq, Nat.zero_add, out0, List.length_map]
    refine ⟨rfl, (tk hb' (n := (ys.length : Int) + 1) (by omega) (by omega)).mono ?_⟩
    rintro _ _ ⟨k, b2, k0, k1, rfl, rfl, hb2⟩
    have k2 : k ≤ 1000000 := by omega
    simp -implicitDefEqProofs only [wp_bnd, wp_ret, wp_lift, wpV_some, wpV_none, wpV_ite, wpV_map, wp_stop, wp_ite, wp_mC, wp_mV, wp_mMove, wp_peek, wp_setS, wp_chk, wp_chg', wp_mCall, wp_mCallR, wp_sAug, wp_sAugI, wp_sSeq, wp_mComp, wp_run_nm, wp_run_ex, wp_get_nm, wp_get_ex, wp_mUn, wp_mBin, wp_runs_nil, wp_runs_cons, wp_gets_nil, wp_gets_cons, wp_mFn, wp_it_nil, wp_it_one, wp_it_star, wp_mTup, wp_mLst, wp_mT, wp_mNot, wp_mAnd, wp_mOr, wp_mBl, wp_asT, wp_mAndV, wp_mOrV, wp_mNotB, wp_mIf, wp_mYes, wp_itSeq, wp_itRng, wp_itEnum, wp_itZip, wp_lstRng, wp_tupRng, wp_part_none, wp_part_some, wp_mSl, wp_put_nm, wp_put_tup, wp_putAll_nil, wp_putAll_cons, wp_sNx, wp_sSet, wp_sPut, wp_temps_nil, wp_temps_cons, wp_setAll_nil, wp_setAll_cons, wp_sPar, wp_sDrop, wp_sRet, wp_sIf, wp_sFor, wp_sItem, wp_sApp, wp_sIns, wp_turn1, dat_fz, dat_ow, truth_int, truth_bool, truth_list, truth_tup, asBool_bool, intOf_int, seqOf_list, seqOf_tup, add_int, add_tup, add_list, sub_int, mul_int, mul_tup, mul_list, mod_int, fdiv_int, neg_int, lt_int, le_int, gt_int, ge_int, eq_int, ne_int, is_non, isnot_non, isNon, sl_list, sl_tup, len_list, len_tup, int_int, abs_int, max_2, max_3, min_2, min_3, tuple_list, tuple_tup, list_list, list_tup, app_D, ins_D, oIx_list, oIx_tup, getAt_0, getAt_1, getAt_2, getAt_3, putAt_0, putAt_1, putAt_2, ite_and, if_true, if_false, Bool.false_eq_true, ↓reduceIte, List.getElem?_cons_zero, List.getElem?_cons_succ, List.set_cons_zero, List.set_cons_succ, List.length_cons, List.length_nil, List.length_set, isOw_ow, isOw_fz, isOw_none, Nat.reduceAdd, Nat.reduceLT, Nat.reduceEqDiff, Nat.reduceSub, Int.reduceLT, Int.reduceLE, true_and, and_true, List.map_cons, List.map_nil, List.append_nil, List.nil_append, List.cons_append, List.replicate, wipeR, restore, noOw, List.all_cons, List.all_nil, Bool.not_false, Bool.not_true, Bool.and_true, Bool.and_self, szOk, Nat.reduceLeDiff, Option.getD_some, Option.getD_none, decide_eq_true_eq, Nat.zero_add, out0, List.length_map, ly, k0, k2]
    refine ⟨_, b2, _, ?_, ?_, hb2, rfl⟩
    · simp only [List.length_append, List.length_take, List.length_cons, List.length_drop, List.length_nil]
      omega
    · rw [List.append_assoc]; exact e2
  · obtain ⟨ys, b', x3, e1, e2, hb', rfl⟩ := h
    simp -implicitDefEqProofs only [wp_bnd, wp_ret, wp_lift, wpV_some, wpV_none, wpV_ite, wpV_map, wp_stop, wp_ite, wp_mC, wp_mV, wp_mMove, wp_peek, wp_setS, wp_chk, wp_chg', wp_mCall, wp_mCallR, wp_sAug, wp_sAugI, wp_sSeq, wp_mComp, wp_run_nm, wp_run_ex, wp_get_nm, wp_get_ex, wp_mUn, wp_mBin, wp_runs_nil, wp_runs_cons, wp_gets_nil, wp_gets_cons, wp_mFn, wp_it_nil, wp_it_one, wp_it_star, wp_mTup, wp_mLst, wp_mT, wp_mNot, wp_mAnd, wp_mOr, wp_mBl, wp_asT, wp_mAndV, wp_mOrV, wp_mNotB, wp_mIf, wp_mYes, wp_itSeq, wp_itRng, wp_itEnum, wp_itZip, wp_lstRng, wp_tupRng, wp_part_none, wp_part_some, wp_mSl, wp_put_nm, wp_put_tup, wp_putAll_nil, wp_putAll_cons, wp_sNx, wp_sSet, wp_sPut, wp_temps_nil, wp_temps_cons, wp_setAll_nil, wp_setAll_cons, wp_sPar, wp_sDrop, wp_sRet, wp_sIf, wp_sFor, wp_sItem, wp_sApp, wp_sIns, wp_turn1, dat_fz, dat_ow, truth_int, truth_bool, truth_list, truth_tup, asBool_bool, intOf_int, seqOf_list, seqOf_tup, add_int, add_tup, add_list, sub_int, mul_int, mul_tup, mul_list, mod_int, fdiv_int, neg_int, lt_int, le_int, gt_int, ge_int, eq_int, ne_int, is_non, isnot_non, isNon, sl_list, sl_tup, len_list, len_tup, int_int, abs_int, max_2, max_3, min_2, min_3, tuple_list, tuple_tup, list_list, list_tup, app_D, ins_D, oIx_list, oIx_tup, getAt_0, getAt_1, getAt_2, getAt_3, putAt_0, putAt_1, putAt_2, ite_and, if_true, if_false, Bool.false_eq_true, ↓reduceIte, List.getElem?_cons_zero, List.getElem?_cons_succ, List.set_cons_zero, List.set_cons_succ, List.length_cons, List.length_nil, List.length_set, isOw_ow, isOw_fz, isOw_none, Nat.reduceAdd, Nat.reduceLT, Nat.reduceEqDiff, Nat.reduceSub, Int.reduceLT, Int.reduceLE, true_and, and_true, List.map_cons, List.map_nil, List.append_nil, List.nil_append, List.cons_append, List.replicate, wipeR, restore, noOw, List.all_cons, List.all_nil, Bool.not_false, Bool.not_true, Bool.and_true, Bool.and_self, szOk, Nat.reduceLeDiff, Option.getD_some, Option.getD_none, decide_eq_true_eq, Nat.zero_add, out0, List.length_map]
    refine ⟨ys, b', rfl, ?_, rfl, hb'⟩
    rw [e1, ← e2, List.append_nil]
end FW

namespace K11
open PySem FK L2 FW
def top (i : Nat) : Stmt := PySem.Challenge.pw_floorkeepers_k11_least_tight_words.main.body.getD i (.Pass ⟨0, 0, 0, 0⟩)
def d_known_sizes : DefT := ⟨top 1, "known_sizes", ["knowledge", "word"], ["knowledge"], false⟩
theorem ok_known_sizes : d_known_sizes.Ok := ⟨⟨rfl, rfl, rfl, by decide +kernel, rfl, by decide +kernel, by decide +kernel⟩, fun _ _ _ _ _ _ us hl => match us, hl with | [_], _ => rfl⟩
def d_goes_up : DefT := ⟨top 2, "goes_up", ["word", "place"], ["word", "place"], false⟩
theorem ok_goes_up : d_goes_up.Ok := ⟨⟨rfl, rfl, rfl, by decide +kernel, rfl, by decide +kernel, by decide +kernel⟩, fun _ _ _ _ _ _ us hl => match us, hl with | [_, _], _ => rfl⟩
def d_is_nested : DefT := ⟨top 3, "is_nested", ["knowledge", "order", "words", "place", "word", "other"], ["knowledge"], false⟩
theorem ok_is_nested : d_is_nested.Ok := ⟨⟨rfl, rfl, rfl, by decide +kernel, rfl, by decide +kernel, by decide +kernel⟩, fun _ _ _ _ _ _ us hl => match us, hl with | [_], _ => rfl⟩
def d_are_sizes : DefT := ⟨top 4, "are_sizes", ["sizes", "many", "one", "other"], ["sizes", "many"], false⟩
theorem ok_are_sizes : d_are_sizes.Ok := ⟨⟨rfl, rfl, rfl, by decide +kernel, rfl, by decide +kernel, by decide +kernel⟩, fun _ _ _ _ _ _ us hl => match us, hl with | [_, _], _ => rfl⟩
def d_stepped : DefT := ⟨top 5, "stepped", ["row", "size", "many", "found", "place", "item"], ["row", "size"], false⟩
theorem ok_stepped : d_stepped.Ok := ⟨⟨rfl, rfl, rfl, by decide +kernel, rfl, by decide +kernel, by decide +kernel⟩, fun _ _ _ _ _ _ us hl => match us, hl with | [_, _], _ => rfl⟩
def d_tightened : DefT := ⟨top 6, "tightened", ["rows", "sizes", "words", "row", "size", "floor", "one", "other", "gap", "word", "place", "item"], ["rows", "sizes"], false⟩
theorem ok_tightened : d_tightened.Ok := ⟨⟨rfl, rfl, rfl, by decide +kernel, rfl, by decide +kernel, by decide +kernel⟩, fun _ _ _ _ _ _ us hl => match us, hl with | [_, _], _ => rfl⟩
def d__law_bag : DefT := ⟨top 8, "_law_bag", ["_law_script", "_law_cell"], ["_law_script"], false⟩
theorem ok__law_bag : d__law_bag.Ok := ⟨⟨rfl, rfl, rfl, by decide +kernel, rfl, by decide +kernel, by decide +kernel⟩, fun _ _ _ _ _ _ us hl => match us, hl with | [_], _ => rfl⟩
def d__law_take : DefT := ⟨top 9, "_law_take", ["_law_bag_here", "_law_many", "_law_cell", "_law_stirred", "_law_value", "_law_begin", "_law_second"], ["_law_bag_here", "_law_many"], true⟩
theorem ok__law_take : d__law_take.Ok := ⟨⟨rfl, rfl, rfl, by decide +kernel, rfl, by decide +kernel, by decide +kernel⟩, fun _ _ _ _ _ _ us hl => match us, hl with | [_, _], _ => rfl⟩
def d__law_one : DefT := ⟨top 10, "_law_one", ["_law_bag_here", "_law_things"], ["_law_bag_here", "_law_things"], true⟩
theorem ok__law_one : d__law_one.Ok := ⟨⟨rfl, rfl, rfl, by decide +kernel, rfl, by decide +kernel, by decide +kernel⟩, fun _ _ _ _ _ _ us hl => match us, hl with | [_, _], _ => rfl⟩
/-! _law_rows : 0 _law_bag_here, 1 _law_many, 2 _law_floors, 3 _law_way, 4 _law_found, 5 _law_floor, 6 _law_row, 7 _law_one_here, 8 _law_count, 9 _law_any_one -/
def b1__law_rows : MS := (sSeq (sAug 7 (fun i j => i + j) (mIf (asT (mBin oEq (.nm 3) (.ex (mC (.int 1))))) (mCallR e__law_one 0 [(false, (mLst [(false, (mC (.int 0))), (false, (mC (.int 1))), (false, (mC (.int 0))), (false, (mC (.int 1)))]))]) (mC (.int 0))))
  (sSeq (sSet 9 (mCallR e__law_one 0 [(false, (mLst [(false, (mC (.int 0))), (false, (mC (.int 0))), (false, (mC (.int 1))), (false, (mV 8)), (false, (mCallR e__law_take 0 [(false, (mBin oAdd (.nm 1) (.ex (mC (.int 1)))))])), (false, (mUn oNeg (.ex (mC (.int 1))))), (false, (mIf (asT (mBin oEq (.nm 3) (.ex (mC (.int 3))))) (mBin oAdd (.nm 1) (.ex (mC (.int 1)))) (mC (.int 0))))]))]))
  (sApp 6 (mIf (asT (mBin oEq (.nm 3) (.ex (mC (.int 1))))) (mV 7) (mIf (asT (mBin oEq (.nm 3) (.ex (mC (.int 0))))) (mC (.int 0)) (mV 9))))))
def b2__law_rows : MS := (sSeq (sPar [6, 7] [(mLst []), (mC (.int 0))])
  (sSeq (sFor (itRng [(.ex (mBin oAdd (.nm 1) (.ex (mC (.int 1)))))]) (.nm 8) b1__law_rows)
  (sApp 4 (mFn oTuple [(.nm 6)]))))
def m__law_rows : MS := (sSeq (sPar [3, 4] [(mCallR e__law_take 0 [(false, (mC (.int 4)))]), (mLst [])])
  (sSeq (sFor (itRng [(.nm 2)]) (.nm 5) b2__law_rows)
  (sRet (mFn oTuple [(.nm 4)]))))
def e__law_rows : FnE := ⟨fnOf 10 m__law_rows, 3, true⟩
def d__law_rows : DefT := ⟨top 11, "_law_rows", ["_law_bag_here", "_law_many", "_law_floors", "_law_way", "_law_found", "_law_floor", "_law_row", "_law_one_here", "_law_count", "_law_any_one"], ["_law_bag_here", "_law_many", "_law_floors"], true⟩
theorem ok__law_rows : d__law_rows.Ok := ⟨⟨rfl, rfl, rfl, by decide +kernel, rfl, by decide +kernel, by decide +kernel⟩, fun _ _ _ _ _ _ us hl => match us, hl with | [_, _, _], _ => rfl⟩
/-! _law_some_sizes : 0 _law_bag_here, 1 _law_many, 2 _law_floors, 3 _law_found, 4 _law_size, 5 _law_floor -/
def b1__law_some_sizes : MS := (sSeq (sSet 4 (mBin oAdd (.nm 4) (.ex (mCallR e__law_one 0 [(false, (mLst [(false, (mC (.int 0))), (false, (mC (.int 1))), (false, (mC (.int 2))), (false, (mC (.int 1))), (false, (mCallR e__law_take 0 [(false, (mBin oAdd (.nm 1) (.ex (mC (.int 1)))))])), (false, (mIf (asT (mBin oEq (.ex (mCallR e__law_take 0 [(false, (mC (.int 4)))])) (.ex (mC (.int 0))))) (mUn oNeg (.ex (mC (.int 1)))) (mC (.int 1))))]))]))))
  (sApp 3 (mIf (asT (mBin oGt (.ex (mCallR e__law_take 0 [(false, (mC (.int 9)))])) (.ex (mC (.int 0))))) (mFn oMin [(.nm 4), (.nm 1)]) (mV 4))))
def m__law_some_sizes : MS := (sSeq (sPar [3, 4] [(mLst []), (mC (.int 0))])
  (sSeq (sFor (itRng [(.nm 2)]) (.nm 5) b1__law_some_sizes)
  (sRet (mFn oTuple [(.nm 3)]))))
def e__law_some_sizes : FnE := ⟨fnOf 6 m__law_some_sizes, 3, true⟩
def d__law_some_sizes : DefT := ⟨top 12, "_law_some_sizes", ["_law_bag_here", "_law_many", "_law_floors", "_law_found", "_law_size", "_law_floor"], ["_law_bag_here", "_law_many", "_law_floors"], true⟩
theorem ok__law_some_sizes : d__law_some_sizes.Ok := ⟨⟨rfl, rfl, rfl, by decide +kernel, rfl, by decide +kernel, by decide +kernel⟩, fun _ _ _ _ _ _ us hl => match us, hl with | [_, _, _], _ => rfl⟩
def d__law_tightened : DefT := ⟨top 13, "_law_tightened", ["_law_rows_here", "_law_sizes", "_law_floors", "_law_many", "_law_words", "_law_one_here", "_law_other", "_law_row", "_law_size", "_law_word", "_law_ahead", "_law_count", "_law_floor", "_law_more"], ["_law_rows_here", "_law_sizes"], false⟩
theorem ok__law_tightened : d__law_tightened.Ok := ⟨⟨rfl, rfl, rfl, by decide +kernel, rfl, by decide +kernel, by decide +kernel⟩, fun _ _ _ _ _ _ us hl => match us, hl with | [_, _], _ => rfl⟩
def d__law_alike : DefT := ⟨top 14, "_law_alike", ["_law_found", "_law_due"], ["_law_found", "_law_due"], false⟩
theorem ok__law_alike : d__law_alike.Ok := ⟨⟨rfl, rfl, rfl, by decide +kernel, rfl, by decide +kernel, by decide +kernel⟩, fun _ _ _ _ _ _ us hl => match us, hl with | [_, _], _ => rfl⟩
def d__law_is_told : DefT := ⟨top 15, "_law_is_told", ["_law_rows_here", "_law_sizes", "_law_due", "_law_shown", "_law_again"], ["_law_rows_here", "_law_sizes"], false⟩
theorem ok__law_is_told : d__law_is_told.Ok := ⟨⟨rfl, rfl, rfl, by decide +kernel, rfl, by decide +kernel, by decide +kernel⟩, fun _ _ _ _ _ _ us hl => match us, hl with | [_, _], _ => rfl⟩
def d__law_mixed : DefT := ⟨top 16, "_law_mixed", ["_law_bag_here", "_law_things", "_law_found", "_law_thing"], ["_law_bag_here", "_law_things"], true⟩
theorem ok__law_mixed : d__law_mixed.Ok := ⟨⟨rfl, rfl, rfl, by decide +kernel, rfl, by decide +kernel, by decide +kernel⟩, fun _ _ _ _ _ _ us hl => match us, hl with | [_, _], _ => rfl⟩
/-! _law_tight_known : 0 _law_bag_here, 1 _law_house_here, 2 _law_order, 3 _law_sizes, 4 _law_size, 5 _law_rooms, 6 _law_turn, 7 _law_rows_here, 8 _law_drawn, 9 _law_count, 10 _law_way, 11 _law_words -/
def b1__law_tight_known : MS := (sSeq (sSet 4 (mFn oMin [(.ex (mBin oIx (.nm 1) (.ex (mC (.int 0))))), (.ex (mBin oAdd (.nm 4) (.ex (mCallR e__law_one 0 [(false, (mLst [(false, (mV 5)), (false, (mV 5)), (false, (mCallR e__law_take 0 [(false, (mBin oAdd (.nm 5) (.ex (mC (.int 1)))))]))]))]))))]))
  (sApp 3 (mV 4)))
def b2__law_tight_known : MS := (sSeq (sSet 8 (mComp [9] (itRng [(.ex (mBin oAdd (.ex (mBin oIx (.nm 1) (.ex (mC (.int 0))))) (.ex (mC (.int 1)))))]) (.nm 9) mYes (mTup [(false, (mCallR e__law_take 0 [(false, (mC (.int 3)))])), (false, (mV 9))])))
  (sApp 7 (mFn oTuple [(.ex (mComp [10, 9] (itSeq (mV 8)) (.tup [(.nm 10), (.nm 9)]) mYes (mIf (asT (mBin oEq (.nm 10) (.ex (mC (.int 0))))) (mFn oMin [(.nm 9), (.nm 4), (.ex (mCallR e__law_take 0 [(false, (mBin oAdd (.nm 9) (.ex (mC (.int 1)))))]))]) (mC (.int 0)))))])))
def b3__law_tight_known : MS := (sSeq (sSet 7 (mLst []))
  (sSeq (sFor (itSeq (mV 3)) (.nm 4) b2__law_tight_known)
  (sSeq (sSet 11 (mCall e__law_tightened [(false, (mFn oTuple [(.nm 7)])), (false, (mFn oTuple [(.nm 3)]))]))
  (sIf (asT (mBin oIsNot (.nm 11) (.ex (mC .none))))
  (sRet (mTup [(false, (mV 2)), (false, (mV 11))]))
  sNx))))
def m__law_tight_known : MS := (sSeq (sPar [2, 3, 4] [(mFn oTuple [(.ex (mCallR e__law_mixed 0 [(false, (lstRng (itRng [(.ex (mBin oIx (.nm 1) (.ex (mC (.int 0)))))])))]))]), (mLst []), (mC (.int 0))])
  (sSeq (sFor (itSeq (mBin oIx (.nm 1) (.ex (mC (.int 1))))) (.nm 5) b1__law_tight_known)
  (sSeq (sFor (itRng [(.ex (mC (.int 3)))]) (.nm 6) b3__law_tight_known)
  (sRet (mTup [(false, (mV 2)), (false, (mCall e__law_tightened [(false, (mBin oMul (.ex (mTup [(false, (mBin oMul (.ex (mTup [(false, (mC (.int 0)))])) (.ex (mBin oAdd (.ex (mBin oIx (.nm 1) (.ex (mC (.int 0))))) (.ex (mC (.int 1)))))))])) (.ex (mFn oLen [(.nm 3)])))), (false, (mFn oTuple [(.nm 3)]))]))])))))
def e__law_tight_known : FnE := ⟨fnOf 12 m__law_tight_known, 2, true⟩
def d__law_tight_known : DefT := ⟨top 17, "_law_tight_known", ["_law_bag_here", "_law_house_here", "_law_order", "_law_sizes", "_law_size", "_law_rooms", "_law_turn", "_law_rows_here", "_law_drawn", "_law_count", "_law_way", "_law_words"], ["_law_bag_here", "_law_house_here"], true⟩
theorem ok__law_tight_known : d__law_tight_known.Ok := ⟨⟨rfl, rfl, rfl, by decide +kernel, rfl, by decide +kernel, by decide +kernel⟩, fun _ _ _ _ _ _ us hl => match us, hl with | [_, _], _ => rfl⟩
def d__law_house : DefT := ⟨top 18, "_law_house", ["_law_bag_here", "_law_things", "_law_floors", "_law_rooms", "_law_many", "_law_found", "_law_left", "_law_floor"], ["_law_bag_here", "_law_things", "_law_floors", "_law_rooms"], true⟩
theorem ok__law_house : d__law_house.Ok := ⟨⟨rfl, rfl, rfl, by decide +kernel, rfl, by decide +kernel, by decide +kernel⟩, fun _ _ _ _ _ _ us hl => match us, hl with | [_, _, _, _], _ => rfl⟩
def d__law_known_sizes : DefT := ⟨top 19, "_law_known_sizes", ["_law_known", "_law_word"], ["_law_known"], false⟩
theorem ok__law_known_sizes : d__law_known_sizes.Ok := ⟨⟨rfl, rfl, rfl, by decide +kernel, rfl, by decide +kernel, by decide +kernel⟩, fun _ _ _ _ _ _ us hl => match us, hl with | [_], _ => rfl⟩
def d__law_is_nested : DefT := ⟨top 20, "_law_is_nested", ["_law_known", "_law_one_here", "_law_other", "_law_at"], ["_law_known"], false⟩
theorem ok__law_is_nested : d__law_is_nested.Ok := ⟨⟨rfl, rfl, rfl, by decide +kernel, rfl, by decide +kernel, by decide +kernel⟩, fun _ _ _ _ _ _ us hl => match us, hl with | [_], _ => rfl⟩
/-! law : 0 _law_script, 1 _law_bag_here, 2 _law_turn, 3 _law_floors, 4 _law_many, 5 _law_rows_here, 6 _law_sizes, 7 _law_known -/
def b1_law : MS := (sSeq (sPar [3, 4] [(mBin oAdd (.ex (mC (.int 1))) (.ex (mCallR e__law_take 1 [(false, (mC (.int 4)))]))), (mCallR e__law_one 1 [(false, (mLst [(false, (mC (.int 3))), (false, (mC (.int 2))), (false, (mC (.int 4))), (false, (mC (.int 1))), (false, (mC (.int 0))), (false, (mC (.int 6))), (false, (mC (.int 16)))]))])])
  (sSeq (sPar [5, 6] [(mCallR e__law_rows 1 [(false, (mV 4)), (false, (mV 3))]), (mCallR e__law_some_sizes 1 [(false, (mV 4)), (false, (mV 3))])])
  (sSeq (sIf (mNot (mT (.ex (mCall e__law_is_told [(false, (mV 5)), (false, (mV 6))]))))
  (sRet (mC (.bool false)))
  sNx)
  (sSeq (sSet 7 (mCallR e__law_tight_known 1 [(false, (mCallR e__law_house 1 [(false, (mCallR e__law_one 1 [(false, (mLst [(false, (mC (.int 4))), (false, (mC (.int 6))), (false, (mC (.int 16)))]))])), (false, (mC (.int 4))), (false, (mC (.int 12)))]))]))
  (sSeq (sIf (mNot (mT (.ex (mCall e__law_alike [(false, (mLst [(false, (mCall e_known_sizes [(false, (mV 7))])), (false, (mCall e_is_nested [(false, (mV 7))]))])), (false, (mLst [(false, (mCall e__law_known_sizes [(false, (mV 7))])), (false, (mCall e__law_is_nested [(false, (mV 7))]))]))]))))
  (sRet (mC (.bool false)))
  sNx)
  (sIf (mNot (mT (.ex (mCall e__law_is_told [(false, (mBin oIx (.nm 7) (.ex (mC (.int 1))))), (false, (mCall e__law_known_sizes [(false, (mV 7))]))]))))
  (sRet (mC (.bool false)))
  sNx))))))
def m_law : MS := (sSeq (sSet 1 (mCall e__law_bag [(false, (mV 0))]))
  (sSeq (sFor (itRng [(.ex (mC (.int 9)))]) (.nm 2) b1_law)
  (sRet (mC (.bool true)))))
def e_law : FnE := ⟨fnOf 8 m_law, 1, false⟩
def d_law : DefT := ⟨top 21, "law", ["_law_script", "_law_bag_here", "_law_turn", "_law_floors", "_law_many", "_law_rows_here", "_law_sizes", "_law_known"], ["_law_script"], false⟩
theorem ok_law : d_law.Ok := ⟨⟨rfl, rfl, rfl, by decide +kernel, rfl, by decide +kernel, by decide +kernel⟩, fun _ _ _ _ _ _ us hl => match us, hl with | [_], _ => rfl⟩
def ds : List (DefT × MS) := [(d_known_sizes, m_known_sizes), (d_goes_up, m_goes_up), (d_is_nested, m_is_nested), (d_are_sizes, m_are_sizes), (d_stepped, m_stepped), (d_tightened, m_tightened), (d__law_bag, m__law_bag), (d__law_take, m__law_take), (d__law_one, m__law_one), (d__law_rows, m__law_rows), (d__law_some_sizes, m__law_some_sizes), (d__law_tightened, m__law_tightened), (d__law_alike, m__law_alike), (d__law_is_told, m__law_is_told), (d__law_mixed, m__law_mixed), (d__law_tight_known, m__law_tight_known), (d__law_house, m__law_house), (d__law_known_sizes, m__law_known_sizes), (d__law_is_nested, m__law_is_nested)]
abbrev LL0 : List (Str × FnE) := []
theorem rd_known_sizes : ((reading 40).ss (d_known_sizes.tc (look LL0)) (defBody d_known_sizes.st)).map (·.1) = some m_known_sizes := by kernel_rfl
abbrev LL1 : List (Str × FnE) := (d_known_sizes.x, feOf d_known_sizes m_known_sizes) :: LL0
theorem rd_goes_up : ((reading 40).ss (d_goes_up.tc (look LL1)) (defBody d_goes_up.st)).map (·.1) = some m_goes_up := by kernel_rfl
abbrev LL2 : List (Str × FnE) := (d_goes_up.x, feOf d_goes_up m_goes_up) :: LL1
theorem rd_is_nested : ((reading 40).ss (d_is_nested.tc (look LL2)) (defBody d_is_nested.st)).map (·.1) = some m_is_nested := by kernel_rfl
abbrev LL3 : List (Str × FnE) := (d_is_nested.x, feOf d_is_nested m_is_nested) :: LL2
theorem rd_are_sizes : ((reading 40).ss (d_are_sizes.tc (look LL3)) (defBody d_are_sizes.st)).map (·.1) = some m_are_sizes := by kernel_rfl
abbrev LL4 : List (Str × FnE) := (d_are_sizes.x, feOf d_are_sizes m_are_sizes) :: LL3
theorem rd_stepped : ((reading 40).ss (d_stepped.tc (look LL4)) (defBody d_stepped.st)).map (·.1) = some m_stepped := by kernel_rfl
abbrev LL5 : List (Str × FnE) := (d_stepped.x, feOf d_stepped m_stepped) :: LL4
theorem rd_tightened : ((reading 40).ss (d_tightened.tc (look LL5)) (defBody d_tightened.st)).map (·.1) = some m_tightened := by kernel_rfl
abbrev LL6 : List (Str × FnE) := (d_tightened.x, feOf d_tightened m_tightened) :: LL5
theorem rd__law_bag : ((reading 40).ss (d__law_bag.tc (look LL6)) (defBody d__law_bag.st)).map (·.1) = some m__law_bag := by kernel_rfl
abbrev LL7 : List (Str × FnE) := (d__law_bag.x, feOf d__law_bag m__law_bag) :: LL6
theorem rd__law_take : ((reading 40).ss (d__law_take.tc (look LL7)) (defBody d__law_take.st)).map (·.1) = some m__law_take := by kernel_rfl
abbrev LL8 : List (Str × FnE) := (d__law_take.x, feOf d__law_take m__law_take) :: LL7
theorem rd__law_one : ((reading 40).ss (d__law_one.tc (look LL8)) (defBody d__law_one.st)).map (·.1) = some m__law_one := by kernel_rfl
abbrev LL9 : List (Str × FnE) := (d__law_one.x, feOf d__law_one m__law_one) :: LL8
theorem rd__law_rows : ((reading 40).ss (d__law_rows.tc (look LL9)) (defBody d__law_rows.st)).map (·.1) = some m__law_rows := by kernel_rfl
abbrev LL10 : List (Str × FnE) := (d__law_rows.x, feOf d__law_rows m__law_rows) :: LL9
theorem rd__law_some_sizes : ((reading 40).ss (d__law_some_sizes.tc (look LL10)) (defBody d__law_some_sizes.st)).map (·.1) = some m__law_some_sizes := by kernel_rfl
abbrev LL11 : List (Str × FnE) := (d__law_some_sizes.x, feOf d__law_some_sizes m__law_some_sizes) :: LL10
theorem rd__law_tightened : ((reading 40).ss (d__law_tightened.tc (look LL11)) (defBody d__law_tightened.st)).map (·.1) = some m__law_tightened := by kernel_rfl
abbrev LL12 : List (Str × FnE) := (d__law_tightened.x, feOf d__law_tightened m__law_tightened) :: LL11
theorem rd__law_alike : ((reading 40).ss (d__law_alike.tc (look LL12)) (defBody d__law_alike.st)).map (·.1) = some m__law_alike := by kernel_rfl
abbrev LL13 : List (Str × FnE) := (d__law_alike.x, feOf d__law_alike m__law_alike) :: LL12
theorem rd__law_is_told : ((reading 40).ss (d__law_is_told.tc (look LL13)) (defBody d__law_is_told.st)).map (·.1) = some m__law_is_told := by kernel_rfl
abbrev LL14 : List (Str × FnE) := (d__law_is_told.x, feOf d__law_is_told m__law_is_told) :: LL13
theorem rd__law_mixed : ((reading 40).ss (d__law_mixed.tc (look LL14)) (defBody d__law_mixed.st)).map (·.1) = some m__law_mixed := by kernel_rfl
abbrev LL15 : List (Str × FnE) := (d__law_mixed.x, feOf d__law_mixed m__law_mixed) :: LL14
theorem rd__law_tight_known : ((reading 40).ss (d__law_tight_known.tc (look LL15)) (defBody d__law_tight_known.st)).map (·.1) = some m__law_tight_known := by kernel_rfl
abbrev LL16 : List (Str × FnE) := (d__law_tight_known.x, feOf d__law_tight_known m__law_tight_known) :: LL15
theorem rd__law_house : ((reading 40).ss (d__law_house.tc (look LL16)) (defBody d__law_house.st)).map (·.1) = some m__law_house := by kernel_rfl
abbrev LL17 : List (Str × FnE) := (d__law_house.x, feOf d__law_house m__law_house) :: LL16
theorem rd__law_known_sizes : ((reading 40).ss (d__law_known_sizes.tc (look LL17)) (defBody d__law_known_sizes.st)).map (·.1) = some m__law_known_sizes := by kernel_rfl
abbrev LL18 : List (Str × FnE) := (d__law_known_sizes.x, feOf d__law_known_sizes m__law_known_sizes) :: LL17
theorem rd__law_is_nested : ((reading 40).ss (d__law_is_nested.tc (look LL18)) (defBody d__law_is_nested.st)).map (·.1) = some m__law_is_nested := by kernel_rfl
abbrev LL19 : List (Str × FnE) := (d__law_is_nested.x, feOf d__law_is_nested m__law_is_nested) :: LL18
theorem rd_law : ((reading 40).ss (d_law.tc (look LL19)) (defBody d_law.st)).map (·.1) = some m_law := by kernel_rfl
abbrev LL20 : List (Str × FnE) := (d_law.x, feOf d_law m_law) :: LL19
theorem reads : Reads 40 [] (ds ++ [(d_law, m_law)]) := ⟨rd_known_sizes, ok_known_sizes, rd_goes_up, ok_goes_up, rd_is_nested, ok_is_nested, rd_are_sizes, ok_are_sizes, rd_stepped, ok_stepped, rd_tightened, ok_tightened, rd__law_bag, ok__law_bag, rd__law_take, ok__law_take, rd__law_one, ok__law_one, rd__law_rows, ok__law_rows, rd__law_some_sizes, ok__law_some_sizes, rd__law_tightened, ok__law_tightened, rd__law_alike, ok__law_alike, rd__law_is_told, ok__law_is_told, rd__law_mixed, ok__law_mixed, rd__law_tight_known, ok__law_tight_known, rd__law_house, ok__law_house, rd__law_known_sizes, ok__law_known_sizes, rd__law_is_nested, ok__law_is_nested, rd_law, ok_law, trivial⟩
def loose0 : List PySem.Str := ["known_sizes", "goes_up", "is_nested", "are_sizes", "stepped", "tightened", "_law_bag", "_law_take", "_law_one", "_law_rows", "_law_some_sizes", "_law_tightened", "_law_alike", "_law_is_told", "_law_mixed", "_law_tight_known", "_law_house", "_law_known_sizes", "_law_is_nested"]
def loose : List PySem.Str := loose0
abbrev Rw : PySem.W.OpenRow := PySem.W.OpenLaw.row PySem.Challenge.rw_floorkeepers_k11_least_tight_words
def hfn : List He.DefD := FK.fnL (ds ++ [(d_law, m_law)])
def hfa : List He.Fa := FK.faOf (ds ++ [(d_law, m_law)])
abbrev hkk : PySem.W.Hook := He.hookD 4 hfa hfn
def hob (s : PySem.W.SharedT) : He.AlD := He.obsDG 4 hfa hfn (HandSHeadRun.getT s)
theorem hob_eq (s : PySem.W.SharedT) : hob s = hkk.obs s.abs := He.obsDG_eq (HandSHeadRun.getT_eq s)
set_option maxHeartbeats 0 in
theorem hrun (w : World) : HandSHeadRun.RunEq Rw (PySem.W.view Rw.prog [21]) hkk hob 2000 loose w := by
  intro os
  kernel_rfl
end K11

/-! K11p: the law's own draws. -/
namespace K11
open PySem FK FW
def Bd (xs : List Int) : Prop := ∀ x ∈ xs, -20000 ≤ x ∧ x ≤ 20000
theorem bd_small {xs : List Int} (h : Bd xs) : Small xs := fun x hx => by have := h x hx; omega
theorem bd_snoc {xs : List Int} {x : Int} (h : Bd xs) (hx : -20000 ≤ x ∧ x ≤ 20000) : Bd (xs ++ [x]) := fun y hy => by
  rcases List.mem_append.mp hy with hy | hy
  · exact h y hy
  · rw [List.mem_singleton.mp hy]; exact hx
theorem b1_rows {b : Bag} {M i : Nat} {F W J x9 : Option Val} {way s : Int} {r : List Int} (hb : b.cells.length ≤ 1000) (hM : M ≤ 100) (hi : i ≤ 101) (g1 : r.length = i) (g2 : Bd r) (g3 : 0 ≤ s) (g4 : s ≤ (i : Int)) :
    wp b1__law_rows [some (.ow b.d), some (.fz (.int (M : Int))), F, some (.fz (.int way)), W, J, some (.ow (intsD r)), some (.fz (.int s)), some (.fz (.int (i : Int))), x9] fun f ρ => f = .nx ∧ ∃ r s, ∃ b' : Bag, ∃ x9, r.length = i + 1 ∧ Bd r ∧ 0 ≤ s ∧ s ≤ (i : Int) + 1 ∧ b'.cells.length ≤ 1000 ∧
      ρ = [some (.ow b'.d), some (.fz (.int (M : Int))), F, some (.fz (.int way)), W, J, some (.ow (intsD r)), some (.fz (.int s)), some (.fz (.int (i : Int))), x9] := by
  have lr : r.length < 16777216 := by omega
  unfold b1__law_rows
  rw [wp_sSeq]
  refine wp.mono (Q := fun f ρ => f = .nx ∧ ∃ s', ∃ b' : Bag, 0 ≤ s' ∧ s' ≤ (i : Int) + 1 ∧ b'.cells.length ≤ 1000 ∧ ρ = [some (.ow b'.d), some (.fz (.int (M : Int))), F, some (.fz (.int way)), W, J, some (.ow (intsD r)), some (.fz (.int s')), some (.fz (.int (i : Int))), x9]) ?_ ?_
  · simp -implicitDefEqProofs only [wp_bnd, wp_ret, wp_lift, wpV_some, wpV_none, wpV_ite, wpV_map, wp_stop, wp_ite, wp_mC, wp_mV, wp_mMove, wp_peek, wp_setS, wp_chk, wp_chg', wp_mCall, wp_mCallR, wp_sAug, wp_sAugI, wp_sSeq, wp_mComp, wp_run_nm, wp_run_ex, wp_get_nm, wp_get_ex, wp_mUn, wp_mBin, wp_runs_nil, wp_runs_cons, wp_gets_nil, wp_gets_cons, wp_mFn, wp_it_nil, wp_it_one, wp_it_star, wp_mTup, wp_mLst, wp_mT, wp_mNot, wp_mAnd, wp_mOr, wp_mBl, wp_asT, wp_mAndV, wp_mOrV, wp_mNotB, wp_mIf, wp_mYes, wp_itSeq, wp_itRng, wp_itEnum, wp_itZip, wp_lstRng, wp_tupRng, wp_part_none, wp_part_some, wp_mSl, wp_put_nm, wp_put_tup, wp_putAll_nil, wp_putAll_cons, wp_sNx, wp_sSet, wp_sPut, wp_temps_nil, wp_temps_cons, wp_setAll_nil, wp_setAll_cons, wp_sPar, wp_sDrop, wp_sRet, wp_sIf, wp_sFor, wp_sItem, wp_sApp, wp_sIns, wp_turn1, dat_fz, dat_ow, truth_int, truth_bool, truth_list, truth_tup, asBool_bool, intOf_int, seqOf_list, seqOf_tup, add_int, add_tup, add_list, sub_int, mul_int, mul_tup, mul_list, mod_int, fdiv_int, neg_int, lt_int, le_int, gt_int, ge_int, eq_int, ne_int, is_non, isnot_non, isNon, sl_list, sl_tup, len_list, len_tup, int_int, abs_int, max_2, max_3, min_2, min_3, tuple_list, tuple_tup, list_list, list_tup, app_D, ins_D, oIx_list, oIx_tup, getAt_0, getAt_1, getAt_2, getAt_3, putAt_0, putAt_1, putAt_2, ite_and, if_true, if_false, Bool.false_eq_true, ↓reduceIte, List.getElem?_cons_zero, List.getElem?_cons_succ, List.set_cons_zero, List.set_cons_succ, List.length_cons, List.length_nil, List.length_set, isOw_ow, isOw_fz, isOw_none, Nat.reduceAdd, Nat.reduceLT, Nat.reduceEqDiff, Nat.reduceSub, Int.reduceLT, Int.reduceLE, true_and, and_true, List.map_cons, List.map_nil, List.append_nil, List.nil_append, List.cons_append, List.replicate, wipeR, restore, noOw, List.all_cons, List.all_nil, Bool.not_false, Bool.not_true, Bool.and_true, Bool.and_self, szOk, Nat.reduceLeDiff, Option.getD_some, Option.getD_none, decide_eq_true_eq, Nat.zero_add, out0, List.length_map]
    by_cases c : way = 1
    · rw [if_pos c]
      refine ⟨rfl, (oneI hb (lo := 0) (hi := 1) (in_cons (by omega) (in_cons (by omega) (in_cons (by omega) (in_cons (by omega) in_nil)))) (by simp) (by simp)).mono ?_⟩
      rintro _ _ ⟨z, b2, z0, z1, rfl, rfl, hb2⟩
      exact ⟨rfl, s + z, b2, by omega, by omega, hb2, rfl⟩
    · rw [if_neg c]
      exact ⟨s + 0, b, by omega, by omega, hb, rfl⟩
  · rintro _ _ ⟨rfl, s', b2, z0, z1, hb2, rfl⟩
    simp -implicitDefEqProofs only [wp_bnd, wp_ret, wp_lift, wpV_some, wpV_none, wpV_ite, wpV_map, wp_stop, wp_ite, wp_mC, wp_mV, wp_mMove, wp_peek, wp_setS, wp_chk, wp_chg', wp_mCall, wp_mCallR, wp_sAug, wp_sAugI, wp_sSeq, wp_mComp, wp_run_nm, wp_run_ex, wp_get_nm, wp_get_ex, wp_mUn, wp_mBin, wp_runs_nil, wp_runs_cons, wp_gets_nil, wp_gets_cons, wp_mFn, wp_it_nil, wp_it_one, wp_it_star, wp_mTup, wp_mLst, wp_mT, wp_mNot, wp_mAnd, wp_mOr, wp_mBl, wp_asT, wp_mAndV, wp_mOrV, wp_mNotB, wp_mIf, wp_mYes, wp_itSeq, wp_itRng, wp_itEnum, wp_itZip, wp_lstRng, wp_tupRng, wp_part_none, wp_part_some, wp_mSl, wp_put_nm, wp_put_tup, wp_putAll_nil, wp_putAll_cons, wp_sNx, wp_sSet, wp_sPut, wp_temps_nil, wp_temps_cons, wp_setAll_nil, wp_setAll_cons, wp_sPar, wp_sDrop, wp_sRet, wp_sIf, wp_sFor, wp_sItem, wp_sApp, wp_sIns, wp_turn1, dat_fz, dat_ow, truth_int, truth_bool, truth_list, truth_tup, asBool_bool, intOf_int, seqOf_list, seqOf_tup, add_int, add_tup, add_list, sub_int, mul_int, mul_tup, mul_list, mod_int, fdiv_int, neg_int, lt_int, le_int, gt_int, ge_int, eq_int, ne_int, is_non, isnot_non, isNon, sl_list, sl_tup, len_list, len_tup, int_int, abs_int, max_2, max_3, min_2, min_3, tuple_list, tuple_tup, list_list, list_tup, app_D, ins_D, oIx_list, oIx_tup, getAt_0, getAt_1, getAt_2, getAt_3, putAt_0, putAt_1, putAt_2, ite_and, if_true, if_false, Bool.false_eq_true, ↓reduceIte, List.getElem?_cons_zero, List.getElem?_cons_succ, List.set_cons_zero, List.set_cons_succ, List.length_cons, List.length_nil, List.length_set, isOw_ow, isOw_fz, isOw_none, Nat.reduceAdd, Nat.reduceLT, Nat.reduceEqDiff, Nat.reduceSub, Int.reduceLT, Int.reduceLE, true_and, and_true, List.map_cons, List.map_nil, List.append_nil, List.nil_append, List.cons_append, List.replicate, wipeR, restore, noOw, List.all_cons, List.all_nil, Bool.not_false, Bool.not_true, Bool.and_true, Bool.and_self, szOk, Nat.reduceLeDiff, Option.getD_some, Option.getD_none, decide_eq_true_eq, Nat.zero_add, out0, List.length_map]
    refine ⟨rfl, (tk hb2 (n := (M : Int) + 1) (by omega) (by omega)).mono ?_⟩
    rintro _ _ ⟨k, b3, k0, k1, rfl, rfl, hb3⟩
    simp -implicitDefEqProofs only [wp_bnd, wp_ret, wp_lift, wpV_some, wpV_none, wpV_ite, wpV_map, wp_stop, wp_ite, wp_mC, wp_mV, wp_mMove, wp_peek, wp_setS, wp_chk, wp_chg', wp_mCall, wp_mCallR, wp_sAug, wp_sAugI, wp_sSeq, wp_mComp, wp_run_nm, wp_run_ex, wp_get_nm, wp_get_ex, wp_mUn, wp_mBin, wp_runs_nil, wp_runs_cons, wp_gets_nil, wp_gets_cons, wp_mFn, wp_it_nil, wp_it_one, wp_it_star, wp_mTup, wp_mLst, wp_mT, wp_mNot, wp_mAnd, wp_mOr, wp_mBl, wp_asT, wp_mAndV, wp_mOrV, wp_mNotB, wp_mIf, wp_mYes, wp_itSeq, wp_itRng, wp_itEnum, wp_itZip, wp_lstRng, wp_tupRng, wp_part_none, wp_part_some, wp_mSl, wp_put_nm, wp_put_tup, wp_putAll_nil, wp_putAll_cons, wp_sNx, wp_sSet, wp_sPut, wp_temps_nil, wp_temps_cons, wp_setAll_nil, wp_setAll_cons, wp_sPar, wp_sDrop, wp_sRet, wp_sIf, wp_sFor, wp_sItem, wp_sApp, wp_sIns, wp_turn1, dat_fz, dat_ow, truth_int, truth_bool, truth_list, truth_tup, asBool_bool, intOf_int, seqOf_list, seqOf_tup, add_int, add_tup, add_list, sub_int, mul_int, mul_tup, mul_list, mod_int, fdiv_int, neg_int, lt_int, le_int, gt_int, ge_int, eq_int, ne_int, is_non, isnot_non, isNon, sl_list, sl_tup, len_list, len_tup, int_int, abs_int, max_2, max_3, min_2, min_3, tuple_list, tuple_tup, list_list, list_tup, app_D, ins_D, oIx_list, oIx_tup, getAt_0, getAt_1, getAt_2, getAt_3, putAt_0, putAt_1, putAt_2, ite_and, if_true, if_false, Bool.false_eq_true, ↓reduceIte, List.getElem?_cons_zero, List.getElem?_cons_succ, List.set_cons_zero, List.set_cons_succ, List.length_cons, List.length_nil, List.length_set, isOw_ow, isOw_fz, isOw_none, Nat.reduceAdd, Nat.reduceLT, Nat.reduceEqDiff, Nat.reduceSub, Int.reduceLT, Int.reduceLE, true_and, and_true, List.map_cons, List.map_nil, List.append_nil, List.nil_append, List.cons_append, List.replicate, wipeR, restore, noOw, List.all_cons, List.all_nil, Bool.not_false, Bool.not_true, Bool.and_true, Bool.and_self, szOk, Nat.reduceLeDiff, Option.getD_some, Option.getD_none, decide_eq_true_eq, Nat.zero_add, out0, List.length_map]
    have last : ∀ z : Int, -1 ≤ z ∧ z ≤ 101 → ∀ b4 : Bag, b4.cells.length ≤ 1000 → wp (sApp 6 (mIf (asT (mBin oEq (.nm 3) (.ex (mC (.int 1))))) (mV 7) (mIf (asT (mBin oEq (.nm 3) (.ex (mC (.int 0))))) (mC (.int 0)) (mV 9)))) [some (.ow b4.d), some (.fz (.int (M : Int))), F, some (.fz (.int way)), W, J, some (.ow (intsD r)), some (.fz (.int s')), some (.fz (.int (i : Int))), some (.fz (.int z))]
        fun f ρ => f = .nx ∧ ∃ r s, ∃ b' : Bag, ∃ x9, r.length = i + 1 ∧ Bd r ∧ 0 ≤ s ∧ s ≤ (i : Int) + 1 ∧ b'.cells.length ≤ 1000 ∧ ρ = [some (.ow b'.d), some (.fz (.int (M : Int))), F, some (.fz (.int way)), W, J, some (.ow (intsD r)), some (.fz (.int s)), some (.fz (.int (i : Int))), x9] := by
      intro z hz b4 hb4
      have fin : ∀ y : Int, -20000 ≤ y ∧ y ≤ 20000 → ∃ r' s, ∃ b' : Bag, ∃ x9, r'.length = i + 1 ∧ Bd r' ∧ 0 ≤ s ∧ s ≤ (i : Int) + 1 ∧ b'.cells.length ≤ 1000 ∧ [some (.ow b4.d), some (.fz (.int (M : Int))), F, some (.fz (.int way)), W, J, some (.ow (intsD r ++ [.int y])), some (.fz (.int s')), some (.fz (.int (i : Int))), some (.fz (.int z))] = [some (.ow b'.d), some (.fz (.int (M : Int))), F, some (.fz (.int way)), W, J, some (.ow (intsD r')), some (.fz (.int s)), some (.fz (.int (i : Int))), x9] := fun y hy =>
        ⟨r ++ [y], s', b4, _, by rw [List.length_append, g1]; rfl, bd_snoc g2 hy, z0, z1, hb4, by rw [ints_app, ints_one]⟩
      simp -implicitDefEqProofs only [wp_bnd, wp_ret, wp_lift, wpV_some, wpV_none, wpV_ite, wpV_map, wp_stop, wp_ite, wp_mC, wp_mV, wp_mMove, wp_peek, wp_setS, wp_chk, wp_chg', wp_mCall, wp_mCallR, wp_sAug, wp_sAugI, wp_sSeq, wp_mComp, wp_run_nm, wp_run_ex, wp_get_nm, wp_get_ex, wp_mUn, wp_mBin, wp_runs_nil, wp_runs_cons, wp_gets_nil, wp_gets_cons, wp_mFn, wp_it_nil, wp_it_one, wp_it_star, wp_mTup, wp_mLst, wp_mT, wp_mNot, wp_mAnd, wp_mOr, wp_mBl, wp_asT, wp_mAndV, wp_mOrV, wp_mNotB, wp_mIf, wp_mYes, wp_itSeq, wp_itRng, wp_itEnum, wp_itZip, wp_lstRng, wp_tupRng, wp_part_none, wp_part_some, wp_mSl, wp_put_nm, wp_put_tup, wp_putAll_nil, wp_putAll_cons, wp_sNx, wp_sSet, wp_sPut, wp_temps_nil, wp_temps_cons, wp_setAll_nil, wp_setAll_cons, wp_sPar, wp_sDrop, wp_sRet, wp_sIf, wp_sFor, wp_sItem, wp_sApp, wp_sIns, wp_turn1, dat_fz, dat_ow, truth_int, truth_bool, truth_list, truth_tup, asBool_bool, intOf_int, seqOf_list, seqOf_tup, add_int, add_tup, add_list, sub_int, mul_int, mul_tup, mul_list, mod_int, fdiv_int, neg_int, lt_int, le_int, gt_int, ge_int, eq_int, ne_int, is_non, isnot_non, isNon, sl_list, sl_tup, len_list, len_tup, int_int, abs_int, max_2, max_3, min_2, min_3, tuple_list, tuple_tup, list_list, list_tup, app_D, ins_D, oIx_list, oIx_tup, getAt_0, getAt_1, getAt_2, getAt_3, putAt_0, putAt_1, putAt_2, ite_and, if_true, if_false, Bool.false_eq_true, ↓reduceIte, List.getElem?_cons_zero, List.getElem?_cons_succ, List.set_cons_zero, List.set_cons_succ, List.length_cons, List.length_nil, List.length_set, isOw_ow, isOw_fz, isOw_none, Nat.reduceAdd, Nat.reduceLT, Nat.reduceEqDiff, Nat.reduceSub, Int.reduceLT, Int.reduceLE, true_and, and_true, List.map_cons, List.map_nil, List.append_nil, List.nil_append, List.cons_append, List.replicate, wipeR, restore, noOw, List.all_cons, List.all_nil, Bool.not_false, Bool.not_true, Bool.and_true, Bool.and_self, szOk, Nat.reduceLeDiff, Option.getD_some, Option.getD_none, decide_eq_true_eq, Nat.zero_add, out0, List.length_map, lr]
      by_cases c1 : way = 1
      · rw [if_pos c1]
        exact fin s' (by omega)
      · rw [if_neg c1]
        by_cases c0 : way = 0
        · rw [if_pos c0]
          exact fin 0 (by omega)
        · rw [if_neg c0]
          exact fin z (by omega)
    by_cases c : way = 3
    · rw [if_pos c]
      refine ⟨rfl, (oneI hb3 (lo := -1) (hi := 101) (in_cons (by omega) (in_cons (by omega) (in_cons (by omega) (in_cons (by omega) (in_cons (by omega) (in_cons (by omega) (in_cons (by omega) in_nil))))))) (by simp) (by simp)).mono ?_⟩
      rintro _ _ ⟨z, b4, y0, y1, rfl, rfl, hb4⟩
      exact last z ⟨y0, y1⟩ b4 hb4
    · rw [if_neg c]
      refine ⟨rfl, (oneI hb3 (lo := -1) (hi := 101) (in_cons (by omega) (in_cons (by omega) (in_cons (by omega) (in_cons (by omega) (in_cons (by omega) (in_cons (by omega) (in_cons (by omega) in_nil))))))) (by simp) (by simp)).mono ?_⟩
      rintro _ _ ⟨z, b4, y0, y1, rfl, rfl, hb4⟩
      exact last z ⟨y0, y1⟩ b4 hb4
theorem rows_ok {b : Bag} (hb : b.cells.length ≤ 1000) {M f : Nat} (hM : M ≤ 100) (hf : f ≤ 100) : wpF (e__law_rows.f [.ow b.d, .fz (.int (M : Int)), .fz (.int (f : Int))]) fun v o =>
    ∃ rows, ∃ b' : Bag, v = .fz (rowsD rows) ∧ rows.length = f ∧ Len M rows ∧ (∀ r ∈ rows, Small r) ∧ o = some b'.d ∧ b'.cells.length ≤ 1000 := by
  have hf3 : f ≤ 1000000 := by omega
  have hM3 : M + 1 ≤ 1000000 := by omega
  have eM : (M : Int) + 1 = ((M + 1 : Nat) : Int) := by omega
  show wpF (fnOf 10 m__law_rows _) _
  rw [wpF_fnOf]
  unfold m__law_rows
  simp -implicitDefEqProofs only [wp_bnd, wp_ret, wp_lift, wpV_some, wpV_none, wpV_ite, wpV_map, wp_stop, wp_ite, wp_mC, wp_mV, wp_mMove, wp_peek, wp_setS, wp_chk, wp_chg', wp_mCall, wp_mCallR, wp_sAug, wp_sAugI, wp_sSeq, wp_mComp, wp_run_nm, wp_run_ex, wp_get_nm, wp_get_ex, wp_mUn, wp_mBin, wp_runs_nil, wp_runs_cons, wp_gets_nil, wp_gets_cons, wp_mFn, wp_it_nil, wp_it_one, wp_it_star, wp_mTup, wp_mLst, wp_mT, wp_mNot, wp_mAnd, wp_mOr, wp_mBl, wp_asT, wp_mAndV, wp_mOrV, wp_mNotB, wp_mIf, wp_mYes, wp_itSeq, wp_itRng, wp_itEnum, wp_itZip, wp_lstRng, wp_tupRng, wp_part_none, wp_part_some, wp_mSl, wp_put_nm, wp_put_tup, wp_putAll_nil, wp_putAll_cons, wp_sNx, wp_sSet, wp_sPut, wp_temps_nil, wp_temps_cons, wp_setAll_nil, wp_setAll_cons, wp_sPar, wp_sDrop, wp_sRet, wp_sIf, wp_sFor, wp_sItem, wp_sApp, wp_sIns, wp_turn1, dat_fz, dat_ow, truth_int, truth_bool, truth_list, truth_tup, asBool_bool, intOf_int, seqOf_list, seqOf_tup, add_int, add_tup, add_list, sub_int, mul_int, mul_tup, mul_list, mod_int, fdiv_int, neg_int, lt_int, le_int, gt_int, ge_int, eq_int, ne_int, is_non, isnot_non, isNon, sl_list, sl_tup, len_list, len_tup, int_int, abs_int, max_2, max_3, min_2, min_3, tuple_list, tuple_tup, list_list, list_tup, app_D, ins_D, oIx_list, oIx_tup, getAt_0, getAt_1, getAt_2, getAt_3, putAt_0, putAt_1, putAt_2, ite_and, if_true, if_false, Bool.false_eq_true, ↓reduceIte, List.getElem?_cons_zero, List.getElem?_cons_succ, List.set_cons_zero, List.set_cons_succ, List.length_cons, List.length_nil, List.length_set, isOw_ow, isOw_fz, isOw_none, Nat.reduceAdd, Nat.reduceLT, Nat.reduceEqDiff, Nat.reduceSub, Int.reduceLT, Int.reduceLE, true_and, and_true, List.map_cons, List.map_nil, List.append_nil, List.nil_append, List.cons_append, List.replicate, wipeR, restore, noOw, List.all_cons, List.all_nil, Bool.not_false, Bool.not_true, Bool.and_true, Bool.and_self, szOk, Nat.reduceLeDiff, Option.getD_some, Option.getD_none, decide_eq_true_eq, Nat.zero_add, out0, List.length_map]
  refine ⟨rfl, (tk hb (n := 4) (by omega) (by omega)).mono ?_⟩
  rintro _ _ ⟨way, b1, _, _, rfl, rfl, hb1⟩
  simp -implicitDefEqProofs only [wp_bnd, wp_ret, wp_lift, wpV_some, wpV_none, wpV_ite, wpV_map, wp_stop, wp_ite, wp_mC, wp_mV, wp_mMove, wp_peek, wp_setS, wp_chk, wp_chg', wp_mCall, wp_mCallR, wp_sAug, wp_sAugI, wp_sSeq, wp_mComp, wp_run_nm, wp_run_ex, wp_get_nm, wp_get_ex, wp_mUn, wp_mBin, wp_runs_nil, wp_runs_cons, wp_gets_nil, wp_gets_cons, wp_mFn, wp_it_nil, wp_it_one, wp_it_star, wp_mTup, wp_mLst, wp_mT, wp_mNot, wp_mAnd, wp_mOr, wp_mBl, wp_asT, wp_mAndV, wp_mOrV, wp_mNotB, wp_mIf, wp_mYes, wp_itSeq, wp_itRng, wp_itEnum, wp_itZip, wp_lstRng, wp_tupRng, wp_part_none, wp_part_some, wp_mSl, wp_put_nm, wp_put_tup, wp_putAll_nil, wp_putAll_cons, wp_sNx, wp_sSet, wp_sPut, wp_temps_nil, wp_temps_cons, wp_setAll_nil, wp_setAll_cons, wp_sPar, wp_sDrop, wp_sRet, wp_sIf, wp_sFor, wp_sItem, wp_sApp, wp_sIns, wp_turn1, dat_fz, dat_ow, truth_int, truth_bool, truth_list, truth_tup, asBool_bool, intOf_int, seqOf_list, seqOf_tup, add_int, add_tup, add_list, sub_int, mul_int, mul_tup, mul_list, mod_int, fdiv_int, neg_int, lt_int, le_int, gt_int, ge_int, eq_int, ne_int, is_non, isnot_non, isNon, sl_list, sl_tup, len_list, len_tup, int_int, abs_int, max_2, max_3, min_2, min_3, tuple_list, tuple_tup, list_list, list_tup, app_D, ins_D, oIx_list, oIx_tup, getAt_0, getAt_1, getAt_2, getAt_3, putAt_0, putAt_1, putAt_2, ite_and, if_true, if_false, Bool.false_eq_true, ↓reduceIte, List.getElem?_cons_zero, List.getElem?_cons_succ, List.set_cons_zero, List.set_cons_succ, List.length_cons, List.length_nil, List.length_set, isOw_ow, isOw_fz, isOw_none, Nat.reduceAdd, Nat.reduceLT, Nat.reduceEqDiff, Nat.reduceSub, Int.reduceLT, Int.reduceLE, true_and, and_true, List.map_cons, List.map_nil, List.append_nil, List.nil_append, List.cons_append, List.replicate, wipeR, restore, noOw, List.all_cons, List.all_nil, Bool.not_false, Bool.not_true, Bool.and_true, Bool.and_self, szOk, Nat.reduceLeDiff, Option.getD_some, Option.getD_none, decide_eq_true_eq, Nat.zero_add, out0, List.length_map, rng_one hf3]
  refine wp_up (fun j ρ => ∃ rows, ∃ b' : Bag, ∃ x5 x6 x7 x8 x9, rows.length = j ∧ Len M rows ∧ (∀ r ∈ rows, Bd r) ∧ b'.cells.length ≤ 1000 ∧
    ρ = [some (.ow b'.d), some (.fz (.int (M : Int))), some (.fz (.int (f : Int))), some (.fz (.int way)), some (.ow (rows.map tupI)), x5, x6, x7, x8, x9]) (fun j ρ hj h => ?_) (fun ρ h => ?_) ⟨[], b1, none, none, none, none, none, rfl, (fun _ h => nomatch h), (fun _ h => nomatch h), hb1, rfl⟩
  · obtain ⟨rows, b', x5, x6, x7, x8, x9, e1, e2, e3, hb', rfl⟩ := h
    have lr : rows.length < 16777216 := by omega
    unfold b2__law_rows
    simp -implicitDefEqProofs only [wp_bnd, wp_ret, wp_lift, wpV_some, wpV_none, wpV_ite, wpV_map, wp_stop, wp_ite, wp_mC, wp_mV, wp_mMove, wp_peek, wp_setS, wp_chk, wp_chg', wp_mCall, wp_mCallR, wp_sAug, wp_sAugI, wp_sSeq, wp_mComp, wp_run_nm, wp_run_ex, wp_get_nm, wp_get_ex, wp_mUn, wp_mBin, wp_runs_nil, wp_runs_cons, wp_gets_nil, wp_gets_cons, wp_mFn, wp_it_nil, wp_it_one, wp_it_star, wp_mTup, wp_mLst, wp_mT, wp_mNot, wp_mAnd, wp_mOr, wp_mBl, wp_asT, wp_mAndV, wp_mOrV, wp_mNotB, wp_mIf, wp_mYes, wp_itSeq, wp_itRng, wp_itEnum, wp_itZip, wp_lstRng, wp_tupRng, wp_part_none, wp_part_some, wp_mSl, wp_put_nm, wp_put_tup, wp_putAll_nil, wp_putAll_cons, wp_sNx, wp_sSet, wp_sPut, wp_temps_nil, wp_temps_cons, wp_setAll_nil, wp_setAll_cons, wp_sPar, wp_sDrop, wp_sRet, wp_sIf, wp_sFor, wp_sItem, wp_sApp, wp_sIns, wp_turn1, dat_fz, dat_ow, truth_int, truth_bool, truth_list, truth_tup, asBool_bool, intOf_int, seqOf_list, seqOf_tup, add_int, add_tup, add_list, sub_int, mul_int, mul_tup, mul_list, mod_int, fdiv_int, neg_int, lt_int, le_int, gt_int, ge_int, eq_int, ne_int, is_non, isnot_non, isNon, sl_list, sl_tup, len_list, len_tup, int_int, abs_int, max_2, max_3, min_2, min_3, tuple_list, tuple_tup, list_list, list_tup, app_D, ins_D, oIx_list, oIx_tup, getAt_0, getAt_1, getAt_2, getAt_3, putAt_0, putAt_1, putAt_2, ite_and, if_true, if_false, Bool.false_eq_true, ↓reduceIte, List.getElem?_cons_zero, List.getElem?_cons_succ, List.set_cons_zero, List.set_cons_succ, List.length_cons, List.length_nil, List.length_set, isOw_ow, isOw_fz, isOw_none, Nat.reduceAdd, Nat.reduceLT, Nat.reduceEqDiff, Nat.reduceSub, Int.reduceLT, Int.reduceLE, true_and, and_true, List.map_cons, List.map_nil, List.append_nil, List.nil_append, List.cons_append, List.replicate, wipeR, restore, noOw, List.all_cons, List.all_nil, Bool.not_false, Bool.not_true, Bool.and_true, Bool.and_self, szOk, Nat.reduceLeDiff, Option.getD_some, Option.getD_none, decide_eq_true_eq, Nat.zero_add, out0, List.length_map, eM, rng_one hM3]
    refine wp_up (fun i ρ => ∃ r s, ∃ b' : Bag, ∃ x8 x9, r.length = i ∧ Bd r ∧ 0 ≤ s ∧ s ≤ (i : Int) ∧ b'.cells.length ≤ 1000 ∧
      ρ = [some (.ow b'.d), some (.fz (.int (M : Int))), some (.fz (.int (f : Int))), some (.fz (.int way)), some (.ow (rows.map tupI)), some (.fz (.int (j : Int))), some (.ow (intsD r)), some (.fz (.int s)), x8, x9]) (fun i ρ hi h => ?_) (fun ρ h => ?_) ⟨[], 0, b', x8, x9, rfl, (fun _ h => nomatch h), by omega, by omega, hb', rfl⟩
    · obtain ⟨r, s, b', x8, x9, g1, g2, g3, g4, hb', rfl⟩ := h
      simp -implicitDefEqProofs only [wp_bnd, wp_ret, wp_lift, wpV_some, wpV_none, wpV_ite, wpV_map, wp_stop, wp_ite, wp_mC, wp_mV, wp_mMove, wp_peek, wp_setS, wp_chk, wp_chg', wp_mCall, wp_mCallR, wp_sAug, wp_sAugI, wp_sSeq, wp_mComp, wp_run_nm, wp_run_ex, wp_get_nm, wp_get_ex, wp_mUn, wp_mBin, wp_runs_nil, wp_runs_cons, wp_gets_nil, wp_gets_cons, wp_mFn, wp_it_nil, wp_it_one, wp_it_star, wp_mTup, wp_mLst, wp_mT, wp_mNot, wp_mAnd, wp_mOr, wp_mBl, wp_asT, wp_mAndV, wp_mOrV, wp_mNotB, wp_mIf, wp_mYes, wp_itSeq, wp_itRng, wp_itEnum, wp_itZip, wp_lstRng, wp_tupRng, wp_part_none, wp_part_some, wp_mSl, wp_put_nm, wp_put_tup, wp_putAll_nil, wp_putAll_cons, wp_sNx, wp_sSet, wp_sPut, wp_temps_nil, wp_temps_cons, wp_setAll_nil, wp_setAll_cons, wp_sPar, wp_sDrop, wp_sRet, wp_sIf, wp_sFor, wp_sItem, wp_sApp, wp_sIns, wp_turn1, dat_fz, dat_ow, truth_int, truth_bool, truth_list, truth_tup, asBool_bool, intOf_int, seqOf_list, seqOf_tup, add_int, add_tup, add_list, sub_int, mul_int, mul_tup, mul_list, mod_int, fdiv_int, neg_int, lt_int, le_int, gt_int, ge_int, eq_int, ne_int, is_non, isnot_non, isNon, sl_list, sl_tup, len_list, len_tup, int_int, abs_int, max_2, max_3, min_2, min_3, tuple_list, tuple_tup, list_list, list_tup, app_D, ins_D, oIx_list, oIx_tup, getAt_0, getAt_1, getAt_2, getAt_3, putAt_0, putAt_1, putAt_2, ite_and, if_true, if_false, Bool.false_eq_true, ↓reduceIte, List.getElem?_cons_zero, List.getElem?_cons_succ, List.set_cons_zero, List.set_cons_succ, List.length_cons, List.length_nil, List.length_set, isOw_ow, isOw_fz, isOw_none, Nat.reduceAdd, Nat.reduceLT, Nat.reduceEqDiff, Nat.reduceSub, Int.reduceLT, Int.reduceLE, true_and, and_true, List.map_cons, List.map_nil, List.append_nil, List.nil_append, List.cons_append, List.replicate, wipeR, restore, noOw, List.all_cons, List.all_nil, Bool.not_false, Bool.not_true, Bool.and_true, Bool.and_self, szOk, Nat.reduceLeDiff, Option.getD_some, Option.getD_none, decide_eq_true_eq, Nat.zero_add, out0, List.length_map]
      refine (b1_rows hb' hM (by omega) g1 g2 g3 g4).mono ?_
      rintro _ _ ⟨rfl, r, s, b2, x9, k1, k2, k3, k4, hb2, rfl⟩
      exact ⟨r, s, b2, _, x9, k1, k2, k3, by push_cast; exact k4, hb2, rfl⟩
    · obtain ⟨r, s, b', x8, x9, g1, g2, g3, g4, hb', rfl⟩ := h
      simp -implicitDefEqProofs only [wp_bnd, wp_ret, wp_lift, wpV_some, wpV_none, wpV_ite, wpV_map, wp_stop, wp_ite, wp_mC, wp_mV, wp_mMove, wp_peek, wp_setS, wp_chk, wp_chg', wp_mCall, wp_mCallR, wp_sAug, wp_sAugI, wp_sSeq, wp_mComp, wp_run_nm, wp_run_ex, wp_get_nm, wp_get_ex, wp_mUn, wp_mBin, wp_runs_nil, wp_runs_cons, wp_gets_nil, wp_gets_cons, wp_mFn, wp_it_nil, wp_it_one, wp_it_star, wp_mTup, wp_mLst, wp_mT, wp_mNot, wp_mAnd, wp_mOr, wp_mBl, wp_asT, wp_mAndV, wp_mOrV, wp_mNotB, wp_mIf, wp_mYes, wp_itSeq, wp_itRng, wp_itEnum, wp_itZip, wp_lstRng, wp_tupRng, wp_part_none, wp_part_some, wp_mSl, wp_put_nm, wp_put_tup, wp_putAll_nil, wp_putAll_cons, wp_sNx, wp_sSet, wp_sPut, wp_temps_nil, wp_temps_cons, wp_setAll_nil, wp_setAll_cons, wp_sPar, wp_sDrop, wp_sRet, wp_sIf, wp_sFor, wp_sItem, wp_sApp, wp_sIns, wp_turn1, dat_fz, dat_ow, truth_int, truth_bool, truth_list, truth_tup, asBool_bool, intOf_int, seqOf_list, seqOf_tup, add_int, add_tup, add_list, sub_int, mul_int, mul_tup, mul_list, mod_int, fdiv_int, neg_int, lt_int, le_int, gt_int, ge_int, eq_int, ne_int, is_non, isnot_non, isNon, sl_list, sl_tup, len_list, len_tup, int_int, abs_int, max_2, max_3, min_2, min_3, tuple_list, tuple_tup, list_list, list_tup, app_D, ins_D, oIx_list, oIx_tup, getAt_0, getAt_1, getAt_2, getAt_3, putAt_0, putAt_1, putAt_2, ite_and, if_true, if_false, Bool.false_eq_true, ↓reduceIte, List.getElem?_cons_zero, List.getElem?_cons_succ, List.set_cons_zero, List.set_cons_succ, List.length_cons, List.length_nil, List.length_set, isOw_ow, isOw_fz, isOw_none, Nat.reduceAdd, Nat.reduceLT, Nat.reduceEqDiff, Nat.reduceSub, Int.reduceLT, Int.reduceLE, true_and, and_true, List.map_cons, List.map_nil, List.append_nil, List.nil_append, List.cons_append, List.replicate, wipeR, restore, noOw, List.all_cons, List.all_nil, Bool.not_false, Bool.not_true, Bool.and_true, Bool.and_self, szOk, Nat.reduceLeDiff, Option.getD_some, Option.getD_none, decide_eq_true_eq, Nat.zero_add, out0, List.length_map, lr]
      refine ⟨rows ++ [r], b', _, _, _, _, _, ?_, ?_, ?_, hb', by rw [List.map_append]; rfl⟩
      · rw [List.length_append, e1]; rfl
      · intro w hw
        rcases List.mem_append.mp hw with hw | hw
        · exact e2 w hw
        · rw [List.mem_singleton.mp hw]; exact g1
      · intro w hw
        rcases List.mem_append.mp hw with hw | hw
        · exact e3 w hw
        · rw [List.mem_singleton.mp hw]; exact g2
  · obtain ⟨rows, b', x5, x6, x7, x8, x9, e1, e2, e3, hb', rfl⟩ := h
    simp -implicitDefEqProofs only [wp_bnd, wp_ret, wp_lift, wpV_some, wpV_none, wpV_ite, wpV_map, wp_stop, wp_ite, wp_mC, wp_mV, wp_mMove, wp_peek, wp_setS, wp_chk, wp_chg', wp_mCall, wp_mCallR, wp_sAug, wp_sAugI, wp_sSeq, wp_mComp, wp_run_nm, wp_run_ex, wp_get_nm, wp_get_ex, wp_mUn, wp_mBin, wp_runs_nil, wp_runs_cons, wp_gets_nil, wp_gets_cons, wp_mFn, wp_it_nil, wp_it_one, wp_it_star, wp_mTup, wp_mLst, wp_mT, wp_mNot, wp_mAnd, wp_mOr, wp_mBl, wp_asT, wp_mAndV, wp_mOrV, wp_mNotB, wp_mIf, wp_mYes, wp_itSeq, wp_itRng, wp_itEnum, wp_itZip, wp_lstRng, wp_tupRng, wp_part_none, wp_part_some, wp_mSl, wp_put_nm, wp_put_tup, wp_putAll_nil, wp_putAll_cons, wp_sNx, wp_sSet, wp_sPut, wp_temps_nil, wp_temps_cons, wp_setAll_nil, wp_setAll_cons, wp_sPar, wp_sDrop, wp_sRet, wp_sIf, wp_sFor, wp_sItem, wp_sApp, wp_sIns, wp_turn1, dat_fz, dat_ow, truth_int, truth_bool, truth_list, truth_tup, asBool_bool, intOf_int, seqOf_list, seqOf_tup, add_int, add_tup, add_list, sub_int, mul_int, mul_tup, mul_list, mod_int, fdiv_int, neg_int, lt_int, le_int, gt_int, ge_int, eq_int, ne_int, is_non, isnot_non, isNon, sl_list, sl_tup, len_list, len_tup, int_int, abs_int, max_2, max_3, min_2, min_3, tuple_list, tuple_tup, list_list, list_tup, app_D, ins_D, oIx_list, oIx_tup, getAt_0, getAt_1, getAt_2, getAt_3, putAt_0, putAt_1, putAt_2, ite_and, if_true, if_false, Bool.false_eq_true, ↓reduceIte, List.getElem?_cons_zero, List.getElem?_cons_succ, List.set_cons_zero, List.set_cons_succ, List.length_cons, List.length_nil, List.length_set, isOw_ow, isOw_fz, isOw_none, Nat.reduceAdd, Nat.reduceLT, Nat.reduceEqDiff, Nat.reduceSub, Int.reduceLT, Int.reduceLE, true_and, and_true, List.map_cons, List.map_nil, List.append_nil, List.nil_append, List.cons_append, List.replicate, wipeR, restore, noOw, List.all_cons, List.all_nil, Bool.not_false, Bool.not_true, Bool.and_true, Bool.and_self, szOk, Nat.reduceLeDiff, Option.getD_some, Option.getD_none, decide_eq_true_eq, Nat.zero_add, out0, List.length_map]
    exact ⟨rows, b', rfl, e1, e2, fun r hr => bd_small (e3 r hr), rfl, hb'⟩
end K11

/-! K11q: sizes, house. -/
namespace K11
open PySem FK FW
theorem some_sizes_ok {b : Bag} (hb : b.cells.length ≤ 1000) {M f : Nat} (hM : M ≤ 100) (hf : f ≤ 100) : wpF (e__law_some_sizes.f [.ow b.d, .fz (.int (M : Int)), .fz (.int (f : Int))]) fun v o =>
    ∃ ss, ∃ b' : Bag, v = .fz (tupI ss) ∧ ss.length = f ∧ Small ss ∧ o = some b'.d ∧ b'.cells.length ≤ 1000 := by
  have hf3 : f ≤ 1000000 := by omega
  show wpF (fnOf 6 m__law_some_sizes _) _
  rw [wpF_fnOf]
  unfold m__law_some_sizes
  simp -implicitDefEqProofs only [wp_bnd, wp_ret, wp_lift, wpV_some, wpV_none, wpV_ite, wpV_map, wp_stop, wp_ite, wp_mC, wp_mV, wp_mMove, wp_peek, wp_setS, wp_chk, wp_chg', wp_mCall, wp_mCallR, wp_sAug, wp_sAugI, wp_sSeq, wp_mComp, wp_run_nm, wp_run_ex, wp_get_nm, wp_get_ex, wp_mUn, wp_mBin, wp_runs_nil, wp_runs_cons, wp_gets_nil, wp_gets_cons, wp_mFn, wp_it_nil, wp_it_one, wp_it_star, wp_mTup, wp_mLst, wp_mT, wp_mNot, wp_mAnd, wp_mOr, wp_mBl, wp_asT, wp_mAndV, wp_mOrV, wp_mNotB, wp_mIf, wp_mYes, wp_itSeq, wp_itRng, wp_itEnum, wp_itZip, wp_lstRng, wp_tupRng, wp_part_none, wp_part_some, wp_mSl, wp_put_nm, wp_put_tup, wp_putAll_nil, wp_putAll_cons, wp_sNx, wp_sSet, wp_sPut, wp_temps_nil, wp_temps_cons, wp_setAll_nil, wp_setAll_cons, wp_sPar, wp_sDrop, wp_sRet, wp_sIf, wp_sFor, wp_sItem, wp_sApp, wp_sIns, wp_turn1, dat_fz, dat_ow, truth_int, truth_bool, truth_list, truth_tup, asBool_bool, intOf_int, seqOf_list, seqOf_tup, add_int, add_tup, add_list, sub_int, mul_int, mul_tup, mul_list, mod_int, fdiv_int, neg_int, lt_int, le_int, gt_int, ge_int, eq_int, ne_int, is_non, isnot_non, isNon, sl_list, sl_tup, len_list, len_tup, int_int, abs_int, max_2, max_3, min_2, min_3, tuple_list, tuple_tup, list_list, list_tup, app_D, ins_D, oIx_list, oIx_tup, getAt_0, getAt_1, getAt_2, getAt_3, putAt_0, putAt_1, putAt_2, ite_and, if_true, if_false, Bool.false_eq_true, ↓reduceIte, List.getElem?_cons_zero, List.getElem?_cons_succ, List.set_cons_zero, List.set_cons_succ, List.length_cons, List.length_nil, List.length_set, isOw_ow, isOw_fz, isOw_none, Nat.reduceAdd, Nat.reduceLT, Nat.reduceEqDiff, Nat.reduceSub, Int.reduceLT, Int.reduceLE, true_and, and_true, List.map_cons, List.map_nil, List.append_nil, List.nil_append, List.cons_append, List.replicate, wipeR, restore, noOw, List.all_cons, List.all_nil, Bool.not_false, Bool.not_true, Bool.and_true, Bool.and_self, szOk, Nat.reduceLeDiff, Option.getD_some, Option.getD_none, decide_eq_true_eq, Nat.zero_add, out0, List.length_map, rng_one hf3]
  refine wp_up (fun j ρ => ∃ ss s, ∃ b' : Bag, ∃ x5, ss.length = j ∧ Bd ss ∧ -101 * (j : Int) ≤ s ∧ s ≤ 101 * (j : Int) ∧ b'.cells.length ≤ 1000 ∧
    ρ = [some (.ow b'.d), some (.fz (.int (M : Int))), some (.fz (.int (f : Int))), some (.ow (intsD ss)), some (.fz (.int s)), x5]) (fun j ρ hj h => ?_) (fun ρ h => ?_) ⟨[], 0, b, none, rfl, (fun _ h => nomatch h), by omega, by omega, hb, rfl⟩
  · obtain ⟨ss, s, b', x5, g1, g2, g3, g4, hb', rfl⟩ := h
    have lr : ss.length < 16777216 := by omega
    simp -implicitDefEqProofs only [wp_bnd, wp_ret, wp_lift, wpV_some, wpV_none, wpV_ite, wpV_map, wp_stop, wp_ite, wp_mC, wp_mV, wp_mMove, wp_peek, wp_setS, wp_chk, wp_chg', wp_mCall, wp_mCallR, wp_sAug, wp_sAugI, wp_sSeq, wp_mComp, wp_run_nm, wp_run_ex, wp_get_nm, wp_get_ex, wp_mUn, wp_mBin, wp_runs_nil, wp_runs_cons, wp_gets_nil, wp_gets_cons, wp_mFn, wp_it_nil, wp_it_one, wp_it_star, wp_mTup, wp_mLst, wp_mT, wp_mNot, wp_mAnd, wp_mOr, wp_mBl, wp_asT, wp_mAndV, wp_mOrV, wp_mNotB, wp_mIf, wp_mYes, wp_itSeq, wp_itRng, wp_itEnum, wp_itZip, wp_lstRng, wp_tupRng, wp_part_none, wp_part_some, wp_mSl, wp_put_nm, wp_put_tup, wp_putAll_nil, wp_putAll_cons, wp_sNx, wp_sSet, wp_sPut, wp_temps_nil, wp_temps_cons, wp_setAll_nil, wp_setAll_cons, wp_sPar, wp_sDrop, wp_sRet, wp_sIf, wp_sFor, wp_sItem, wp_sApp, wp_sIns, wp_turn1, dat_fz, dat_ow, truth_int, truth_bool, truth_list, truth_tup, asBool_bool, intOf_int, seqOf_list, seqOf_tup, add_int, add_tup, add_list, sub_int, mul_int, mul_tup, mul_list, mod_int, fdiv_int, neg_int, lt_int, le_int, gt_int, ge_int, eq_int, ne_int, is_non, isnot_non, isNon, sl_list, sl_tup, len_list, len_tup, int_int, abs_int, max_2, max_3, min_2, min_3, tuple_list, tuple_tup, list_list, list_tup, app_D, ins_D, oIx_list, oIx_tup, getAt_0, getAt_1, getAt_2, getAt_3, putAt_0, putAt_1, putAt_2, ite_and, if_true, if_false, Bool.false_eq_true, ↓reduceIte, List.getElem?_cons_zero, List.getElem?_cons_succ, List.set_cons_zero, List.set_cons_succ, List.length_cons, List.length_nil, List.length_set, isOw_ow, isOw_fz, isOw_none, Nat.reduceAdd, Nat.reduceLT, Nat.reduceEqDiff, Nat.reduceSub, Int.reduceLT, Int.reduceLE, true_and, and_true, List.map_cons, List.map_nil, List.append_nil, List.nil_append, List.cons_append, List.replicate, wipeR, restore, noOw, List.all_cons, List.all_nil, Bool.not_false, Bool.not_true, Bool.and_true, Bool.and_self, szOk, Nat.reduceLeDiff, Option.getD_some, Option.getD_none, decide_eq_true_eq, Nat.zero_add, out0, List.length_map]
    refine wp.mono (Q := fun f' ρ => f' = .nx ∧ ∃ z s', ∃ b3 : Bag, b3.cells.length ≤ 1000 ∧ (-20000 ≤ z ∧ z ≤ 20000) ∧ -101 * ((j : Int) + 1) ≤ s' ∧ s' ≤ 101 * ((j : Int) + 1) ∧ ρ = [some (.ow b3.d), some (.fz (.int (M : Int))), some (.fz (.int (f : Int))), some (.ow (intsD ss ++ [.int z])), some (.fz (.int s')), some (.fz (.int (j : Int)))]) ?_ ?_
    · unfold b1__law_some_sizes
      simp -implicitDefEqProofs only [wp_bnd, wp_ret, wp_lift, wpV_some, wpV_none, wpV_ite, wpV_map, wp_stop, wp_ite, wp_mC, wp_mV, wp_mMove, wp_peek, wp_setS, wp_chk, wp_chg', wp_mCall, wp_mCallR, wp_sAug, wp_sAugI, wp_sSeq, wp_mComp, wp_run_nm, wp_run_ex, wp_get_nm, wp_get_ex, wp_mUn, wp_mBin, wp_runs_nil, wp_runs_cons, wp_gets_nil, wp_gets_cons, wp_mFn, wp_it_nil, wp_it_one, wp_it_star, wp_mTup, wp_mLst, wp_mT, wp_mNot, wp_mAnd, wp_mOr, wp_mBl, wp_asT, wp_mAndV, wp_mOrV, wp_mNotB, wp_mIf, wp_mYes, wp_itSeq, wp_itRng, wp_itEnum, wp_itZip, wp_lstRng, wp_tupRng, wp_part_none, wp_part_some, wp_mSl, wp_put_nm, wp_put_tup, wp_putAll_nil, wp_putAll_cons, wp_sNx, wp_sSet, wp_sPut, wp_temps_nil, wp_temps_cons, wp_setAll_nil, wp_setAll_cons, wp_sPar, wp_sDrop, wp_sRet, wp_sIf, wp_sFor, wp_sItem, wp_sApp, wp_sIns, wp_turn1, dat_fz, dat_ow, truth_int, truth_bool, truth_list, truth_tup, asBool_bool, intOf_int, seqOf_list, seqOf_tup, add_int, add_tup, add_list, sub_int, mul_int, mul_tup, mul_list, mod_int, fdiv_int, neg_int, lt_int, le_int, gt_int, ge_int, eq_int, ne_int, is_non, isnot_non, isNon, sl_list, sl_tup, len_list, len_tup, int_int, abs_int, max_2, max_3, min_2, min_3, tuple_list, tuple_tup, list_list, list_tup, app_D, ins_D, oIx_list, oIx_tup, getAt_0, getAt_1, getAt_2, getAt_3, putAt_0, putAt_1, putAt_2, ite_and, if_true, if_false, Bool.false_eq_true, ↓reduceIte, List.getElem?_cons_zero, List.getElem?_cons_succ, List.set_cons_zero, List.set_cons_succ, List.length_cons, List.length_nil, List.length_set, isOw_ow, isOw_fz, isOw_none, Nat.reduceAdd, Nat.reduceLT, Nat.reduceEqDiff, Nat.reduceSub, Int.reduceLT, Int.reduceLE, true_and, and_true, List.map_cons, List.map_nil, List.append_nil, List.nil_append, List.cons_append, List.replicate, wipeR, restore, noOw, List.all_cons, List.all_nil, Bool.not_false, Bool.not_true, Bool.and_true, Bool.and_self, szOk, Nat.reduceLeDiff, Option.getD_some, Option.getD_none, decide_eq_true_eq, Nat.zero_add, out0, List.length_map]
      refine ⟨rfl, (tk hb' (n := (M : Int) + 1) (by omega) (by omega)).mono ?_⟩
      rintro _ _ ⟨k, b2, k0, k1, rfl, rfl, hb2⟩
      simp -implicitDefEqProofs only [wp_bnd, wp_ret, wp_lift, wpV_some, wpV_none, wpV_ite, wpV_map, wp_stop, wp_ite, wp_mC, wp_mV, wp_mMove, wp_peek, wp_setS, wp_chk, wp_chg', wp_mCall, wp_mCallR, wp_sAug, wp_sAugI, wp_sSeq, wp_mComp, wp_run_nm, wp_run_ex, wp_get_nm, wp_get_ex, wp_mUn, wp_mBin, wp_runs_nil, wp_runs_cons, wp_gets_nil, wp_gets_cons, wp_mFn, wp_it_nil, wp_it_one, wp_it_star, wp_mTup, wp_mLst, wp_mT, wp_mNot, wp_mAnd, wp_mOr, wp_mBl, wp_asT, wp_mAndV, wp_mOrV, wp_mNotB, wp_mIf, wp_mYes, wp_itSeq, wp_itRng, wp_itEnum, wp_itZip, wp_lstRng, wp_tupRng, wp_part_none, wp_part_some, wp_mSl, wp_put_nm, wp_put_tup, wp_putAll_nil, wp_putAll_cons, wp_sNx, wp_sSet, wp_sPut, wp_temps_nil, wp_temps_cons, wp_setAll_nil, wp_setAll_cons, wp_sPar, wp_sDrop, wp_sRet, wp_sIf, wp_sFor, wp_sItem, wp_sApp, wp_sIns, wp_turn1, dat_fz, dat_ow, truth_int, truth_bool, truth_list, truth_tup, asBool_bool, intOf_int, seqOf_list, seqOf_tup, add_int, add_tup, add_list, sub_int, mul_int, mul_tup, mul_list, mod_int, fdiv_int, neg_int, lt_int, le_int, gt_int, ge_int, eq_int, ne_int, is_non, isnot_non, isNon, sl_list, sl_tup, len_list, len_tup, int_int, abs_int, max_2, max_3, min_2, min_3, tuple_list, tuple_tup, list_list, list_tup, app_D, ins_D, oIx_list, oIx_tup, getAt_0, getAt_1, getAt_2, getAt_3, putAt_0, putAt_1, putAt_2, ite_and, if_true, if_false, Bool.false_eq_true, ↓reduceIte, List.getElem?_cons_zero, List.getElem?_cons_succ, List.set_cons_zero, List.set_cons_succ, List.length_cons, List.length_nil, List.length_set, isOw_ow, isOw_fz, isOw_none, Nat.reduceAdd, Nat.reduceLT, Nat.reduceEqDiff, Nat.reduceSub, Int.reduceLT, Int.reduceLE, true_and, and_true, List.map_cons, List.map_nil, List.append_nil, List.nil_append, List.cons_append, List.replicate, wipeR, restore, noOw, List.all_cons, List.all_nil, Bool.not_false, Bool.not_true, Bool.and_true, Bool.and_self, szOk, Nat.reduceLeDiff, Option.getD_some, Option.getD_none, decide_eq_true_eq, Nat.zero_add, out0, List.length_map]
      refine ⟨rfl, (tk hb2 (n := 4) (by omega) (by omega)).mono ?_⟩
      rintro _ _ ⟨k2, b3, k3, k4, rfl, rfl, hb3⟩
      simp -implicitDefEqProofs only [wp_bnd, wp_ret, wp_lift, wpV_some, wpV_none, wpV_ite, wpV_map, wp_stop, wp_ite, wp_mC, wp_mV, wp_mMove, wp_peek, wp_setS, wp_chk, wp_chg', wp_mCall, wp_mCallR, wp_sAug, wp_sAugI, wp_sSeq, wp_mComp, wp_run_nm, wp_run_ex, wp_get_nm, wp_get_ex, wp_mUn, wp_mBin, wp_runs_nil, wp_runs_cons, wp_gets_nil, wp_gets_cons, wp_mFn, wp_it_nil, wp_it_one, wp_it_star, wp_mTup, wp_mLst, wp_mT, wp_mNot, wp_mAnd, wp_mOr, wp_mBl, wp_asT, wp_mAndV, wp_mOrV, wp_mNotB, wp_mIf, wp_mYes, wp_itSeq, wp_itRng, wp_itEnum, wp_itZip, wp_lstRng, wp_tupRng, wp_part_none, wp_part_some, wp_mSl, wp_put_nm, wp_put_tup, wp_putAll_nil, wp_putAll_cons, wp_sNx, wp_sSet, wp_sPut, wp_temps_nil, wp_temps_cons, wp_setAll_nil, wp_setAll_cons, wp_sPar, wp_sDrop, wp_sRet, wp_sIf, wp_sFor, wp_sItem, wp_sApp, wp_sIns, wp_turn1, dat_fz, dat_ow, truth_int, truth_bool, truth_list, truth_tup, asBool_bool, intOf_int, seqOf_list, seqOf_tup, add_int, add_tup, add_list, sub_int, mul_int, mul_tup, mul_list, mod_int, fdiv_int, neg_int, lt_int, le_int, gt_int, ge_int, eq_int, ne_int, is_non, isnot_non, isNon, sl_list, sl_tup, len_list, len_tup, int_int, abs_int, max_2, max_3, min_2, min_3, tuple_list, tuple_tup, list_list, list_tup, app_D, ins_D, oIx_list, oIx_tup, getAt_0, getAt_1, getAt_2, getAt_3, putAt_0, putAt_1, putAt_2, ite_and, if_true, if_false, Bool.false_eq_true, ↓reduceIte, List.getElem?_cons_zero, List.getElem?_cons_succ, List.set_cons_zero, List.set_cons_succ, List.length_cons, List.length_nil, List.length_set, isOw_ow, isOw_fz, isOw_none, Nat.reduceAdd, Nat.reduceLT, Nat.reduceEqDiff, Nat.reduceSub, Int.reduceLT, Int.reduceLE, true_and, and_true, List.map_cons, List.map_nil, List.append_nil, List.nil_append, List.cons_append, List.replicate, wipeR, restore, noOw, List.all_cons, List.all_nil, Bool.not_false, Bool.not_true, Bool.and_true, Bool.and_self, szOk, Nat.reduceLeDiff, Option.getD_some, Option.getD_none, decide_eq_true_eq, Nat.zero_add, out0, List.length_map]
      have rest : ∀ (i : Int) (b4 : Bag), b4.cells.length ≤ 1000 → -1 ≤ i ∧ i ≤ 101 → wp (sApp 3 (mIf (asT (mBin oGt (.ex (mCallR e__law_take 0 [(false, (mC (.int 9)))])) (.ex (mC (.int 0))))) (mFn oMin [(.nm 4), (.nm 1)]) (mV 4)))
          [some (.ow b4.d), some (.fz (.int (M : Int))), some (.fz (.int (f : Int))), some (.ow (intsD ss)), some (.fz (.int (s + i))), some (.fz (.int (j : Int)))]
          fun f' ρ => f' = .nx ∧ ∃ z s', ∃ b3 : Bag, b3.cells.length ≤ 1000 ∧ (-20000 ≤ z ∧ z ≤ 20000) ∧ -101 * ((j : Int) + 1) ≤ s' ∧ s' ≤ 101 * ((j : Int) + 1) ∧ ρ = [some (.ow b3.d), some (.fz (.int (M : Int))), some (.fz (.int (f : Int))), some (.ow (intsD ss ++ [.int z])), some (.fz (.int s')), some (.fz (.int (j : Int)))] := by
        intro i b4 hb4 hi
        simp -implicitDefEqProofs only [wp_bnd, wp_ret, wp_lift, wpV_some, wpV_none, wpV_ite, wpV_map, wp_stop, wp_ite, wp_mC, wp_mV, wp_mMove, wp_peek, wp_setS, wp_chk, wp_chg', wp_mCall, wp_mCallR, wp_sAug, wp_sAugI, wp_sSeq, wp_mComp, wp_run_nm, wp_run_ex, wp_get_nm, wp_get_ex, wp_mUn, wp_mBin, wp_runs_nil, wp_runs_cons, wp_gets_nil, wp_gets_cons, wp_mFn, wp_it_nil, wp_it_one, wp_it_star, wp_mTup, wp_mLst, wp_mT, wp_mNot, wp_mAnd, wp_mOr, wp_mBl, wp_asT, wp_mAndV, wp_mOrV, wp_mNotB, wp_mIf, wp_mYes, wp_itSeq, wp_itRng, wp_itEnum, wp_itZip, wp_lstRng, wp_tupRng, wp_part_none, wp_part_some, wp_mSl, wp_put_nm, wp_put_tup, wp_putAll_nil, wp_putAll_cons, wp_sNx, wp_sSet, wp_sPut, wp_temps_nil, wp_temps_cons, wp_setAll_nil, wp_setAll_cons, wp_sPar, wp_sDrop, wp_sRet, wp_sIf, wp_sFor, wp_sItem, wp_sApp, wp_sIns, wp_turn1, dat_fz, dat_ow, truth_int, truth_bool, truth_list, truth_tup, asBool_bool, intOf_int, seqOf_list, seqOf_tup, add_int, add_tup, add_list, sub_int, mul_int, mul_tup, mul_list, mod_int, fdiv_int, neg_int, lt_int, le_int, gt_int, ge_int, eq_int, ne_int, is_non, isnot_non, isNon, sl_list, sl_tup, len_list, len_tup, int_int, abs_int, max_2, max_3, min_2, min_3, tuple_list, tuple_tup, list_list, list_tup, app_D, ins_D, oIx_list, oIx_tup, getAt_0, getAt_1, getAt_2, getAt_3, putAt_0, putAt_1, putAt_2, ite_and, if_true, if_false, Bool.false_eq_true, ↓reduceIte, List.getElem?_cons_zero, List.getElem?_cons_succ, List.set_cons_zero, List.set_cons_succ, List.length_cons, List.length_nil, List.length_set, isOw_ow, isOw_fz, isOw_none, Nat.reduceAdd, Nat.reduceLT, Nat.reduceEqDiff, Nat.reduceSub, Int.reduceLT, Int.reduceLE, true_and, and_true, List.map_cons, List.map_nil, List.append_nil, List.nil_append, List.cons_append, List.replicate, wipeR, restore, noOw, List.all_cons, List.all_nil, Bool.not_false, Bool.not_true, Bool.and_true, Bool.and_self, szOk, Nat.reduceLeDiff, Option.getD_some, Option.getD_none, decide_eq_true_eq, Nat.zero_add, out0, List.length_map]
        refine ⟨rfl, (tk hb4 (n := 9) (by omega) (by omega)).mono ?_⟩
        rintro _ _ ⟨q, b5, q0, q1, rfl, rfl, hb5⟩
        simp -implicitDefEqProofs only [wp_bnd, wp_ret, wp_lift, wpV_some, wpV_none, wpV_ite, wpV_map, wp_stop, wp_ite, wp_mC, wp_mV, wp_mMove, wp_peek, wp_setS, wp_chk, wp_chg', wp_mCall, wp_mCallR, wp_sAug, wp_sAugI, wp_sSeq, wp_mComp, wp_run_nm, wp_run_ex, wp_get_nm, wp_get_ex, wp_mUn, wp_mBin, wp_runs_nil, wp_runs_cons, wp_gets_nil, wp_gets_cons, wp_mFn, wp_it_nil, wp_it_one, wp_it_star, wp_mTup, wp_mLst, wp_mT, wp_mNot, wp_mAnd, wp_mOr, wp_mBl, wp_asT, wp_mAndV, wp_mOrV, wp_mNotB, wp_mIf, wp_mYes, wp_itSeq, wp_itRng, wp_itEnum, wp_itZip, wp_lstRng, wp_tupRng, wp_part_none, wp_part_some, wp_mSl, wp_put_nm, wp_put_tup, wp_putAll_nil, wp_putAll_cons, wp_sNx, wp_sSet, wp_sPut, wp_temps_nil, wp_temps_cons, wp_setAll_nil, wp_setAll_cons, wp_sPar, wp_sDrop, wp_sRet, wp_sIf, wp_sFor, wp_sItem, wp_sApp, wp_sIns, wp_turn1, dat_fz, dat_ow, truth_int, truth_bool, truth_list, truth_tup, asBool_bool, intOf_int, seqOf_list, seqOf_tup, add_int, add_tup, add_list, sub_int, mul_int, mul_tup, mul_list, mod_int, fdiv_int, neg_int, lt_int, le_int, gt_int, ge_int, eq_int, ne_int, is_non, isnot_non, isNon, sl_list, sl_tup, len_list, len_tup, int_int, abs_int, max_2, max_3, min_2, min_3, tuple_list, tuple_tup, list_list, list_tup, app_D, ins_D, oIx_list, oIx_tup, getAt_0, getAt_1, getAt_2, getAt_3, putAt_0, putAt_1, putAt_2, ite_and, if_true, if_false, Bool.false_eq_true, ↓reduceIte, List.getElem?_cons_zero, List.getElem?_cons_succ, List.set_cons_zero, List.set_cons_succ, List.length_cons, List.length_nil, List.length_set, isOw_ow, isOw_fz, isOw_none, Nat.reduceAdd, Nat.reduceLT, Nat.reduceEqDiff, Nat.reduceSub, Int.reduceLT, Int.reduceLE, true_and, and_true, List.map_cons, List.map_nil, List.append_nil, List.nil_append, List.cons_append, List.replicate, wipeR, restore, noOw, List.all_cons, List.all_nil, Bool.not_false, Bool.not_true, Bool.and_true, Bool.and_self, szOk, Nat.reduceLeDiff, Option.getD_some, Option.getD_none, decide_eq_true_eq, Nat.zero_add, out0, List.length_map, lr]
        by_cases c : 0 < q
        · rw [if_pos c]
          exact ⟨min (s + i) (M : Int), s + i, b5, hb5, by omega, by omega, by omega, rfl⟩
        · rw [if_neg c]
          exact ⟨s + i, s + i, b5, hb5, by omega, by omega, by omega, rfl⟩
      by_cases c : k2 = 0
      · rw [if_pos c]
        refine ⟨rfl, (oneI hb3 (lo := -1) (hi := 101) (in_cons (by omega) (in_cons (by omega) (in_cons (by omega) (in_cons (by omega) (in_cons (by omega) (in_cons (by omega) in_nil)))))) (by simp) (by simp)).mono ?_⟩
        rintro _ _ ⟨z, b4, y0, y1, rfl, rfl, hb4⟩
        exact rest z b4 hb4 ⟨y0, y1⟩
      · rw [if_neg c]
        refine ⟨rfl, (oneI hb3 (lo := -1) (hi := 101) (in_cons (by omega) (in_cons (by omega) (in_cons (by omega) (in_cons (by omega) (in_cons (by omega) (in_cons (by omega) in_nil)))))) (by simp) (by simp)).mono ?_⟩
        rintro _ _ ⟨z, b4, y0, y1, rfl, rfl, hb4⟩
        exact rest z b4 hb4 ⟨y0, y1⟩
    · rintro _ _ ⟨rfl, z, s', b3, hb3, hz, h1, h2, rfl⟩
      exact ⟨ss ++ [z], s', b3, _, by rw [List.length_append, g1]; rfl, bd_snoc g2 hz, by push_cast; omega, by push_cast; omega, hb3, by rw [ints_app, ints_one]⟩
  · obtain ⟨ss, s, b', x5, g1, g2, g3, g4, hb', rfl⟩ := h
    simp -implicitDefEqProofs only [wp_bnd, wp_ret, wp_lift, wpV_some, wpV_none, wpV_ite, wpV_map, wp_stop, wp_ite, wp_mC, wp_mV, wp_mMove, wp_peek, wp_setS, wp_chk, wp_chg', wp_mCall, wp_mCallR, wp_sAug, wp_sAugI, wp_sSeq, wp_mComp, wp_run_nm, wp_run_ex, wp_get_nm, wp_get_ex, wp_mUn, wp_mBin, wp_runs_nil, wp_runs_cons, wp_gets_nil, wp_gets_cons, wp_mFn, wp_it_nil, wp_it_one, wp_it_star, wp_mTup, wp_mLst, wp_mT, wp_mNot, wp_mAnd, wp_mOr, wp_mBl, wp_asT, wp_mAndV, wp_mOrV, wp_mNotB, wp_mIf, wp_mYes, wp_itSeq, wp_itRng, wp_itEnum, wp_itZip, wp_lstRng, wp_tupRng, wp_part_none, wp_part_some, wp_mSl, wp_put_nm, wp_put_tup, wp_putAll_nil, wp_putAll_cons, wp_sNx, wp_sSet, wp_sPut, wp_temps_nil, wp_temps_cons, wp_setAll_nil, wp_setAll_cons, wp_sPar, wp_sDrop, wp_sRet, wp_sIf, wp_sFor, wp_sItem, wp_sApp, wp_sIns, wp_turn1, dat_fz, dat_ow, truth_int, truth_bool, truth_list, truth_tup, asBool_bool, intOf_int, seqOf_list, seqOf_tup, add_int, add_tup, add_list, sub_int, mul_int, mul_tup, mul_list, mod_int, fdiv_int, neg_int, lt_int, le_int, gt_int, ge_int, eq_int, ne_int, is_non, isnot_non, isNon, sl_list, sl_tup, len_list, len_tup, int_int, abs_int, max_2, max_3, min_2, min_3, tuple_list, tuple_tup, list_list, list_tup, app_D, ins_D, oIx_list, oIx_tup, getAt_0, getAt_1, getAt_2, getAt_3, putAt_0, putAt_1, putAt_2, ite_and, if_true, if_false, Bool.false_eq_true, ↓reduceIte, List.getElem?_cons_zero, List.getElem?_cons_succ, List.set_cons_zero, List.set_cons_succ, List.length_cons, List.length_nil, List.length_set, isOw_ow, isOw_fz, isOw_none, Nat.reduceAdd, Nat.reduceLT, Nat.reduceEqDiff, Nat.reduceSub, Int.reduceLT, Int.reduceLE, true_and, and_true, List.map_cons, List.map_nil, List.append_nil, List.nil_append, List.cons_append, List.replicate, wipeR, restore, noOw, List.all_cons, List.all_nil, Bool.not_false, Bool.not_true, Bool.and_true, Bool.and_self, szOk, Nat.reduceLeDiff, Option.getD_some, Option.getD_none, decide_eq_true_eq, Nat.zero_add, out0, List.length_map]
    exact ⟨ss, b', rfl, g1, bd_small g2, rfl, hb'⟩
theorem house_ok {b : Bag} (hb : b.cells.length ≤ 1000) {T F R : Nat} (hT : T ≤ 100) (hF : 1 ≤ F ∧ F ≤ 100) (hR : 1 ≤ R ∧ R ≤ 100) : wpF (e__law_house.f [.ow b.d, .fz (.int (T : Int)), .fz (.int (F : Int)), .fz (.int (R : Int))]) fun v o =>
    ∃ (M : Nat) (rs : List Int), ∃ b' : Bag, v = .fz (.tuple [.int (M : Int), tupI rs]) ∧ M ≤ T ∧ rs ≠ [] ∧ rs.length ≤ F ∧ (∀ x ∈ rs, 1 ≤ x ∧ x ≤ 100) ∧ o = some b'.d ∧ b'.cells.length ≤ 1000 := by
  show wpF (fnOf 8 m__law_house _) _
  rw [wpF_fnOf]
  unfold m__law_house
  simp -implicitDefEqProofs only [wp_bnd, wp_ret, wp_lift, wpV_some, wpV_none, wpV_ite, wpV_map, wp_stop, wp_ite, wp_mC, wp_mV, wp_mMove, wp_peek, wp_setS, wp_chk, wp_chg', wp_mCall, wp_mCallR, wp_sAug, wp_sAugI, wp_sSeq, wp_mComp, wp_run_nm, wp_run_ex, wp_get_nm, wp_get_ex, wp_mUn, wp_mBin, wp_runs_nil, wp_runs_cons, wp_gets_nil, wp_gets_cons, wp_mFn, wp_it_nil, wp_it_one, wp_it_star, wp_mTup, wp_mLst, wp_mT, wp_mNot, wp_mAnd, wp_mOr, wp_mBl, wp_asT, wp_mAndV, wp_mOrV, wp_mNotB, wp_mIf, wp_mYes, wp_itSeq, wp_itRng, wp_itEnum, wp_itZip, wp_lstRng, wp_tupRng, wp_part_none, wp_part_some, wp_mSl, wp_put_nm, wp_put_tup, wp_putAll_nil, wp_putAll_cons, wp_sNx, wp_sSet, wp_sPut, wp_temps_nil, wp_temps_cons, wp_setAll_nil, wp_setAll_cons, wp_sPar, wp_sDrop, wp_sRet, wp_sIf, wp_sFor, wp_sItem, wp_sApp, wp_sIns, wp_turn1, dat_fz, dat_ow, truth_int, truth_bool, truth_list, truth_tup, asBool_bool, intOf_int, seqOf_list, seqOf_tup, add_int, add_tup, add_list, sub_int, mul_int, mul_tup, mul_list, mod_int, fdiv_int, neg_int, lt_int, le_int, gt_int, ge_int, eq_int, ne_int, is_non, isnot_non, isNon, sl_list, sl_tup, len_list, len_tup, int_int, abs_int, max_2, max_3, min_2, min_3, tuple_list, tuple_tup, list_list, list_tup, app_D, ins_D, oIx_list, oIx_tup, getAt_0, getAt_1, getAt_2, getAt_3, putAt_0, putAt_1, putAt_2, ite_and, if_true, if_false, Bool.false_eq_true, ↓reduceIte, List.getElem?_cons_zero, List.getElem?_cons_succ, List.set_cons_zero, List.set_cons_succ, List.length_cons, List.length_nil, List.length_set, isOw_ow, isOw_fz, isOw_none, Nat.reduceAdd, Nat.reduceLT, Nat.reduceEqDiff, Nat.reduceSub, Int.reduceLT, Int.reduceLE, true_and, and_true, List.map_cons, List.map_nil, List.append_nil, List.nil_append, List.cons_append, List.replicate, wipeR, restore, noOw, List.all_cons, List.all_nil, Bool.not_false, Bool.not_true, Bool.and_true, Bool.and_self, szOk, Nat.reduceLeDiff, Option.getD_some, Option.getD_none, decide_eq_true_eq, Nat.zero_add, out0, List.length_map]
  refine ⟨rfl, (tk hb (n := (T : Int) + 1) (by omega) (by omega)).mono ?_⟩
  rintro _ _ ⟨k, b1, k0, k1, rfl, rfl, hb1⟩
  simp -implicitDefEqProofs only [wp_bnd, wp_ret, wp_lift, wpV_some, wpV_none, wpV_ite, wpV_map, wp_stop, wp_ite, wp_mC, wp_mV, wp_mMove, wp_peek, wp_setS, wp_chk, wp_chg', wp_mCall, wp_mCallR, wp_sAug, wp_sAugI, wp_sSeq, wp_mComp, wp_run_nm, wp_run_ex, wp_get_nm, wp_get_ex, wp_mUn, wp_mBin, wp_runs_nil, wp_runs_cons, wp_gets_nil, wp_gets_cons, wp_mFn, wp_it_nil, wp_it_one, wp_it_star, wp_mTup, wp_mLst, wp_mT, wp_mNot, wp_mAnd, wp_mOr, wp_mBl, wp_asT, wp_mAndV, wp_mOrV, wp_mNotB, wp_mIf, wp_mYes, wp_itSeq, wp_itRng, wp_itEnum, wp_itZip, wp_lstRng, wp_tupRng, wp_part_none, wp_part_some, wp_mSl, wp_put_nm, wp_put_tup, wp_putAll_nil, wp_putAll_cons, wp_sNx, wp_sSet, wp_sPut, wp_temps_nil, wp_temps_cons, wp_setAll_nil, wp_setAll_cons, wp_sPar, wp_sDrop, wp_sRet, wp_sIf, wp_sFor, wp_sItem, wp_sApp, wp_sIns, wp_turn1, dat_fz, dat_ow, truth_int, truth_bool, truth_list, truth_tup, asBool_bool, intOf_int, seqOf_list, seqOf_tup, add_int, add_tup, add_list, sub_int, mul_int, mul_tup, mul_list, mod_int, fdiv_int, neg_int, lt_int, le_int, gt_int, ge_int, eq_int, ne_int, is_non, isnot_non, isNon, sl_list, sl_tup, len_list, len_tup, int_int, abs_int, max_2, max_3, min_2, min_3, tuple_list, tuple_tup, list_list, list_tup, app_D, ins_D, oIx_list, oIx_tup, getAt_0, getAt_1, getAt_2, getAt_3, putAt_0, putAt_1, putAt_2, ite_and, if_true, if_false, Bool.false_eq_true, ↓reduceIte, List.getElem?_cons_zero, List.getElem?_cons_succ, List.set_cons_zero, List.set_cons_succ, List.length_cons, List.length_nil, List.length_set, isOw_ow, isOw_fz, isOw_none, Nat.reduceAdd, Nat.reduceLT, Nat.reduceEqDiff, Nat.reduceSub, Int.reduceLT, Int.reduceLE, true_and, and_true, List.map_cons, List.map_nil, List.append_nil, List.nil_append, List.cons_append, List.replicate, wipeR, restore, noOw, List.all_cons, List.all_nil, Bool.not_false, Bool.not_true, Bool.and_true, Bool.and_self, szOk, Nat.reduceLeDiff, Option.getD_some, Option.getD_none, decide_eq_true_eq, Nat.zero_add, out0, List.length_map]
  refine ⟨rfl, (oneI hb1 (lo := 0) (hi := 100) (in_cons (by omega) (in_cons (by omega) (in_cons (by omega) (in_cons (by omega) (in_cons (by omega) (in_cons (by omega) (in_cons (by omega) in_nil))))))) (by simp) (by simp)).mono ?_⟩
  rintro _ _ ⟨mm, b2, m0, m1, rfl, rfl, hb2⟩
  simp -implicitDefEqProofs only [wp_bnd, wp_ret, wp_lift, wpV_some, wpV_none, wpV_ite, wpV_map, wp_stop, wp_ite, wp_mC, wp_mV, wp_mMove, wp_peek, wp_setS, wp_chk, wp_chg', wp_mCall, wp_mCallR, wp_sAug, wp_sAugI, wp_sSeq, wp_mComp, wp_run_nm, wp_run_ex, wp_get_nm, wp_get_ex, wp_mUn, wp_mBin, wp_runs_nil, wp_runs_cons, wp_gets_nil, wp_gets_cons, wp_mFn, wp_it_nil, wp_it_one, wp_it_star, wp_mTup, wp_mLst, wp_mT, wp_mNot, wp_mAnd, wp_mOr, wp_mBl, wp_asT, wp_mAndV, wp_mOrV, wp_mNotB, wp_mIf, wp_mYes, wp_itSeq, wp_itRng, wp_itEnum, wp_itZip, wp_lstRng, wp_tupRng, wp_part_none, wp_part_some, wp_mSl, wp_put_nm, wp_put_tup, wp_putAll_nil, wp_putAll_cons, wp_sNx, wp_sSet, wp_sPut, wp_temps_nil, wp_temps_cons, wp_setAll_nil, wp_setAll_cons, wp_sPar, wp_sDrop, wp_sRet, wp_sIf, wp_sFor, wp_sItem, wp_sApp, wp_sIns, wp_turn1, dat_fz, dat_ow, truth_int, truth_bool, truth_list, truth_tup, asBool_bool, intOf_int, seqOf_list, seqOf_tup, add_int, add_tup, add_list, sub_int, mul_int, mul_tup, mul_list, mod_int, fdiv_int, neg_int, lt_int, le_int, gt_int, ge_int, eq_int, ne_int, is_non, isnot_non, isNon, sl_list, sl_tup, len_list, len_tup, int_int, abs_int, max_2, max_3, min_2, min_3, tuple_list, tuple_tup, list_list, list_tup, app_D, ins_D, oIx_list, oIx_tup, getAt_0, getAt_1, getAt_2, getAt_3, putAt_0, putAt_1, putAt_2, ite_and, if_true, if_false, Bool.false_eq_true, ↓reduceIte, List.getElem?_cons_zero, List.getElem?_cons_succ, List.set_cons_zero, List.set_cons_succ, List.length_cons, List.length_nil, List.length_set, isOw_ow, isOw_fz, isOw_none, Nat.reduceAdd, Nat.reduceLT, Nat.reduceEqDiff, Nat.reduceSub, Int.reduceLT, Int.reduceLE, true_and, and_true, List.map_cons, List.map_nil, List.append_nil, List.nil_append, List.cons_append, List.replicate, wipeR, restore, noOw, List.all_cons, List.all_nil, Bool.not_false, Bool.not_true, Bool.and_true, Bool.and_self, szOk, Nat.reduceLeDiff, Option.getD_some, Option.getD_none, decide_eq_true_eq, Nat.zero_add, out0, List.length_map]
  refine ⟨rfl, (tk hb2 (n := (F : Int)) (by omega) (by omega)).mono ?_⟩
  rintro _ _ ⟨k2, b3, k3, k4, rfl, rfl, hb3⟩
  simp -implicitDefEqProofs only [wp_bnd, wp_ret, wp_lift, wpV_some, wpV_none, wpV_ite, wpV_map, wp_stop, wp_ite, wp_mC, wp_mV, wp_mMove, wp_peek, wp_setS, wp_chk, wp_chg', wp_mCall, wp_mCallR, wp_sAug, wp_sAugI, wp_sSeq, wp_mComp, wp_run_nm, wp_run_ex, wp_get_nm, wp_get_ex, wp_mUn, wp_mBin, wp_runs_nil, wp_runs_cons, wp_gets_nil, wp_gets_cons, wp_mFn, wp_it_nil, wp_it_one, wp_it_star, wp_mTup, wp_mLst, wp_mT, wp_mNot, wp_mAnd, wp_mOr, wp_mBl, wp_asT, wp_mAndV, wp_mOrV, wp_mNotB, wp_mIf, wp_mYes, wp_itSeq, wp_itRng, wp_itEnum, wp_itZip, wp_lstRng, wp_tupRng, wp_part_none, wp_part_some, wp_mSl, wp_put_nm, wp_put_tup, wp_putAll_nil, wp_putAll_cons, wp_sNx, wp_sSet, wp_sPut, wp_temps_nil, wp_temps_cons, wp_setAll_nil, wp_setAll_cons, wp_sPar, wp_sDrop, wp_sRet, wp_sIf, wp_sFor, wp_sItem, wp_sApp, wp_sIns, wp_turn1, dat_fz, dat_ow, truth_int, truth_bool, truth_list, truth_tup, asBool_bool, intOf_int, seqOf_list, seqOf_tup, add_int, add_tup, add_list, sub_int, mul_int, mul_tup, mul_list, mod_int, fdiv_int, neg_int, lt_int, le_int, gt_int, ge_int, eq_int, ne_int, is_non, isnot_non, isNon, sl_list, sl_tup, len_list, len_tup, int_int, abs_int, max_2, max_3, min_2, min_3, tuple_list, tuple_tup, list_list, list_tup, app_D, ins_D, oIx_list, oIx_tup, getAt_0, getAt_1, getAt_2, getAt_3, putAt_0, putAt_1, putAt_2, ite_and, if_true, if_false, Bool.false_eq_true, ↓reduceIte, List.getElem?_cons_zero, List.getElem?_cons_succ, List.set_cons_zero, List.set_cons_succ, List.length_cons, List.length_nil, List.length_set, isOw_ow, isOw_fz, isOw_none, Nat.reduceAdd, Nat.reduceLT, Nat.reduceEqDiff, Nat.reduceSub, Int.reduceLT, Int.reduceLE, true_and, and_true, List.map_cons, List.map_nil, List.append_nil, List.nil_append, List.cons_append, List.replicate, wipeR, restore, noOw, List.all_cons, List.all_nil, Bool.not_false, Bool.not_true, Bool.and_true, Bool.and_self, szOk, Nat.reduceLeDiff, Option.getD_some, Option.getD_none, decide_eq_true_eq, Nat.zero_add, out0, List.length_map]
  refine ⟨rfl, (oneI hb3 (lo := 1) (hi := 200) (in_cons (by omega) (in_cons (by omega) (in_cons (by omega) (in_cons (by omega) (in_cons (by omega) in_nil))))) (by simp) (by simp)).mono ?_⟩
  rintro _ _ ⟨nn, b4, n0, n1, rfl, rfl, hb4⟩
  obtain ⟨n, rfl⟩ := Int.eq_ofNat_of_zero_le (show 0 ≤ nn by omega)
  have hn : n ≤ 1000000 := by omega
  simp -implicitDefEqProofs only [wp_bnd, wp_ret, wp_lift, wpV_some, wpV_none, wpV_ite, wpV_map, wp_stop, wp_ite, wp_mC, wp_mV, wp_mMove, wp_peek, wp_setS, wp_chk, wp_chg', wp_mCall, wp_mCallR, wp_sAug, wp_sAugI, wp_sSeq, wp_mComp, wp_run_nm, wp_run_ex, wp_get_nm, wp_get_ex, wp_mUn, wp_mBin, wp_runs_nil, wp_runs_cons, wp_gets_nil, wp_gets_cons, wp_mFn, wp_it_nil, wp_it_one, wp_it_star, wp_mTup, wp_mLst, wp_mT, wp_mNot, wp_mAnd, wp_mOr, wp_mBl, wp_asT, wp_mAndV, wp_mOrV, wp_mNotB, wp_mIf, wp_mYes, wp_itSeq, wp_itRng, wp_itEnum, wp_itZip, wp_lstRng, wp_tupRng, wp_part_none, wp_part_some, wp_mSl, wp_put_nm, wp_put_tup, wp_putAll_nil, wp_putAll_cons, wp_sNx, wp_sSet, wp_sPut, wp_temps_nil, wp_temps_cons, wp_setAll_nil, wp_setAll_cons, wp_sPar, wp_sDrop, wp_sRet, wp_sIf, wp_sFor, wp_sItem, wp_sApp, wp_sIns, wp_turn1, dat_fz, dat_ow, truth_int, truth_bool, truth_list, truth_tup, asBool_bool, intOf_int, seqOf_list, seqOf_tup, add_int, add_tup, add_list, sub_int, mul_int, mul_tup, mul_list, mod_int, fdiv_int, neg_int, lt_int, le_int, gt_int, ge_int, eq_int, ne_int, is_non, isnot_non, isNon, sl_list, sl_tup, len_list, len_tup, int_int, abs_int, max_2, max_3, min_2, min_3, tuple_list, tuple_tup, list_list, list_tup, app_D, ins_D, oIx_list, oIx_tup, getAt_0, getAt_1, getAt_2, getAt_3, putAt_0, putAt_1, putAt_2, ite_and, if_true, if_false, Bool.false_eq_true, ↓reduceIte, List.getElem?_cons_zero, List.getElem?_cons_succ, List.set_cons_zero, List.set_cons_succ, List.length_cons, List.length_nil, List.length_set, isOw_ow, isOw_fz, isOw_none, Nat.reduceAdd, Nat.reduceLT, Nat.reduceEqDiff, Nat.reduceSub, Int.reduceLT, Int.reduceLE, true_and, and_true, List.map_cons, List.map_nil, List.append_nil, List.nil_append, List.cons_append, List.replicate, wipeR, restore, noOw, List.all_cons, List.all_nil, Bool.not_false, Bool.not_true, Bool.and_true, Bool.and_self, szOk, Nat.reduceLeDiff, Option.getD_some, Option.getD_none, decide_eq_true_eq, Nat.zero_add, out0, List.length_map, rng_one hn]
  refine wp_up (fun j ρ => ∃ (rs : List Int) (left : Int), ∃ b' : Bag, ∃ x7, (j = 0 ∨ rs ≠ []) ∧ rs.length ≤ j ∧ rs.length ≤ F ∧ (∀ x ∈ rs, 1 ≤ x ∧ x ≤ 100) ∧ (0 ≤ left ∧ left ≤ 100) ∧ (j = 0 → 1 ≤ left) ∧ b'.cells.length ≤ 1000 ∧
    ρ = [some (.ow b'.d), some (.fz (.int (T : Int))), some (.fz (.int (F : Int))), some (.fz (.int (R : Int))), some (.fz (.int mm)), some (.ow (intsD rs)), some (.fz (.int left)), x7]) (fun j ρ hj h => ?_) (fun ρ h => ?_) ⟨[], R, b4, none, .inl rfl, by simp, by simp, (fun _ h => nomatch h), by omega, by omega, hb4, rfl⟩
  · obtain ⟨rs, left, b', x7, g0, g1, g2, g3, g4, g5, hb', rfl⟩ := h
    have lr : rs.length < 16777216 := by omega
    simp -implicitDefEqProofs only [wp_bnd, wp_ret, wp_lift, wpV_some, wpV_none, wpV_ite, wpV_map, wp_stop, wp_ite, wp_mC, wp_mV, wp_mMove, wp_peek, wp_setS, wp_chk, wp_chg', wp_mCall, wp_mCallR, wp_sAug, wp_sAugI, wp_sSeq, wp_mComp, wp_run_nm, wp_run_ex, wp_get_nm, wp_get_ex, wp_mUn, wp_mBin, wp_runs_nil, wp_runs_cons, wp_gets_nil, wp_gets_cons, wp_mFn, wp_it_nil, wp_it_one, wp_it_star, wp_mTup, wp_mLst, wp_mT, wp_mNot, wp_mAnd, wp_mOr, wp_mBl, wp_asT, wp_mAndV, wp_mOrV, wp_mNotB, wp_mIf, wp_mYes, wp_itSeq, wp_itRng, wp_itEnum, wp_itZip, wp_lstRng, wp_tupRng, wp_part_none, wp_part_some, wp_mSl, wp_put_nm, wp_put_tup, wp_putAll_nil, wp_putAll_cons, wp_sNx, wp_sSet, wp_sPut, wp_temps_nil, wp_temps_cons, wp_setAll_nil, wp_setAll_cons, wp_sPar, wp_sDrop, wp_sRet, wp_sIf, wp_sFor, wp_sItem, wp_sApp, wp_sIns, wp_turn1, dat_fz, dat_ow, truth_int, truth_bool, truth_list, truth_tup, asBool_bool, intOf_int, seqOf_list, seqOf_tup, add_int, add_tup, add_list, sub_int, mul_int, mul_tup, mul_list, mod_int, fdiv_int, neg_int, lt_int, le_int, gt_int, ge_int, eq_int, ne_int, is_non, isnot_non, isNon, sl_list, sl_tup, len_list, len_tup, int_int, abs_int, max_2, max_3, min_2, min_3, tuple_list, tuple_tup, list_list, list_tup, app_D, ins_D, oIx_list, oIx_tup, getAt_0, getAt_1, getAt_2, getAt_3, putAt_0, putAt_1, putAt_2, ite_and, if_true, if_false, Bool.false_eq_true, ↓reduceIte, List.getElem?_cons_zero, List.getElem?_cons_succ, List.set_cons_zero, List.set_cons_succ, List.length_cons, List.length_nil, List.length_set, isOw_ow, isOw_fz, isOw_none, Nat.reduceAdd, Nat.reduceLT, Nat.reduceEqDiff, Nat.reduceSub, Int.reduceLT, Int.reduceLE, true_and, and_true, List.map_cons, List.map_nil, List.append_nil, List.nil_append, List.cons_append, List.replicate, wipeR, restore, noOw, List.all_cons, List.all_nil, Bool.not_false, Bool.not_true, Bool.and_true, Bool.and_self, szOk, Nat.reduceLeDiff, Option.getD_some, Option.getD_none, decide_eq_true_eq, Nat.zero_add, out0, List.length_map]
    unfold b1__law_house
    simp -implicitDefEqProofs only [wp_bnd, wp_ret, wp_lift, wpV_some, wpV_none, wpV_ite, wpV_map, wp_stop, wp_ite, wp_mC, wp_mV, wp_mMove, wp_peek, wp_setS, wp_chk, wp_chg', wp_mCall, wp_mCallR, wp_sAug, wp_sAugI, wp_sSeq, wp_mComp, wp_run_nm, wp_run_ex, wp_get_nm, wp_get_ex, wp_mUn, wp_mBin, wp_runs_nil, wp_runs_cons, wp_gets_nil, wp_gets_cons, wp_mFn, wp_it_nil, wp_it_one, wp_it_star, wp_mTup, wp_mLst, wp_mT, wp_mNot, wp_mAnd, wp_mOr, wp_mBl, wp_asT, wp_mAndV, wp_mOrV, wp_mNotB, wp_mIf, wp_mYes, wp_itSeq, wp_itRng, wp_itEnum, wp_itZip, wp_lstRng, wp_tupRng, wp_part_none, wp_part_some, wp_mSl, wp_put_nm, wp_put_tup, wp_putAll_nil, wp_putAll_cons, wp_sNx, wp_sSet, wp_sPut, wp_temps_nil, wp_temps_cons, wp_setAll_nil, wp_setAll_cons, wp_sPar, wp_sDrop, wp_sRet, wp_sIf, wp_sFor, wp_sItem, wp_sApp, wp_sIns, wp_turn1, dat_fz, dat_ow, truth_int, truth_bool, truth_list, truth_tup, asBool_bool, intOf_int, seqOf_list, seqOf_tup, add_int, add_tup, add_list, sub_int, mul_int, mul_tup, mul_list, mod_int, fdiv_int, neg_int, lt_int, le_int, gt_int, ge_int, eq_int, ne_int, is_non, isnot_non, isNon, sl_list, sl_tup, len_list, len_tup, int_int, abs_int, max_2, max_3, min_2, min_3, tuple_list, tuple_tup, list_list, list_tup, app_D, ins_D, oIx_list, oIx_tup, getAt_0, getAt_1, getAt_2, getAt_3, putAt_0, putAt_1, putAt_2, ite_and, if_true, if_false, Bool.false_eq_true, ↓reduceIte, List.getElem?_cons_zero, List.getElem?_cons_succ, List.set_cons_zero, List.set_cons_succ, List.length_cons, List.length_nil, List.length_set, isOw_ow, isOw_fz, isOw_none, Nat.reduceAdd, Nat.reduceLT, Nat.reduceEqDiff, Nat.reduceSub, Int.reduceLT, Int.reduceLE, true_and, and_true, List.map_cons, List.map_nil, List.append_nil, List.nil_append, List.cons_append, List.replicate, wipeR, restore, noOw, List.all_cons, List.all_nil, Bool.not_false, Bool.not_true, Bool.and_true, Bool.and_self, szOk, Nat.reduceLeDiff, Option.getD_some, Option.getD_none, decide_eq_true_eq, Nat.zero_add, out0, List.length_map]
    have no : ¬(0 < left ∧ (j : Int) < (F : Int)) → rs ≠ [] := fun hc => by
      rcases g0 with g0 | g0
      · exact absurd ⟨by have := g5 g0; omega, by omega⟩ hc
      · exact g0
    by_cases c1 : 0 < left
    · rw [if_pos c1]
      by_cases c2 : (j : Int) < (F : Int)
      · rw [if_pos c2]
        refine ⟨rfl, (tk hb' (n := (R : Int)) (by omega) (by omega)).mono ?_⟩
        rintro _ _ ⟨q, b2, q0, q1, rfl, rfl, hb2⟩
        simp -implicitDefEqProofs only [wp_bnd, wp_ret, wp_lift, wpV_some, wpV_none, wpV_ite, wpV_map, wp_stop, wp_ite, wp_mC, wp_mV, wp_mMove, wp_peek, wp_setS, wp_chk, wp_chg', wp_mCall, wp_mCallR, wp_sAug, wp_sAugI, wp_sSeq, wp_mComp, wp_run_nm, wp_run_ex, wp_get_nm, wp_get_ex, wp_mUn, wp_mBin, wp_runs_nil, wp_runs_cons, wp_gets_nil, wp_gets_cons, wp_mFn, wp_it_nil, wp_it_one, wp_it_star, wp_mTup, wp_mLst, wp_mT, wp_mNot, wp_mAnd, wp_mOr, wp_mBl, wp_asT, wp_mAndV, wp_mOrV, wp_mNotB, wp_mIf, wp_mYes, wp_itSeq, wp_itRng, wp_itEnum, wp_itZip, wp_lstRng, wp_tupRng, wp_part_none, wp_part_some, wp_mSl, wp_put_nm, wp_put_tup, wp_putAll_nil, wp_putAll_cons, wp_sNx, wp_sSet, wp_sPut, wp_temps_nil, wp_temps_cons, wp_setAll_nil, wp_setAll_cons, wp_sPar, wp_sDrop, wp_sRet, wp_sIf, wp_sFor, wp_sItem, wp_sApp, wp_sIns, wp_turn1, dat_fz, dat_ow, truth_int, truth_bool, truth_list, truth_tup, asBool_bool, intOf_int, seqOf_list, seqOf_tup, add_int, add_tup, add_list, sub_int, mul_int, mul_tup, mul_list, mod_int, fdiv_int, neg_int, lt_int, le_int, gt_int, ge_int, eq_int, ne_int, is_non, isnot_non, isNon, sl_list, sl_tup, len_list, len_tup, int_int, abs_int, max_2, max_3, min_2, min_3, tuple_list, tuple_tup, list_list, list_tup, app_D, ins_D, oIx_list, oIx_tup, getAt_0, getAt_1, getAt_2, getAt_3, putAt_0, putAt_1, putAt_2, ite_and, if_true, if_false, Bool.false_eq_true, ↓reduceIte, List.getElem?_cons_zero, List.getElem?_cons_succ, List.set_cons_zero, List.set_cons_succ, List.length_cons, List.length_nil, List.length_set, isOw_ow, isOw_fz, isOw_none, Nat.reduceAdd, Nat.reduceLT, Nat.reduceEqDiff, Nat.reduceSub, Int.reduceLT, Int.reduceLE, true_and, and_true, List.map_cons, List.map_nil, List.append_nil, List.nil_append, List.cons_append, List.replicate, wipeR, restore, noOw, List.all_cons, List.all_nil, Bool.not_false, Bool.not_true, Bool.and_true, Bool.and_self, szOk, Nat.reduceLeDiff, Option.getD_some, Option.getD_none, decide_eq_true_eq, Nat.zero_add, out0, List.length_map]
        refine ⟨rfl, (oneI hb2 (lo := 1) (hi := 100) (in_cons (by omega) (in_cons (by omega) (in_cons (by omega) (in_cons (by omega) (in_cons (by omega) (in_cons (by omega) (in_cons (by omega) in_nil))))))) (by simp) (by simp)).mono ?_⟩
        rintro _ _ ⟨z, b3, z0, z1, rfl, rfl, hb3⟩
        simp -implicitDefEqProofs only [wp_bnd, wp_ret, wp_lift, wpV_some, wpV_none, wpV_ite, wpV_map, wp_stop, wp_ite, wp_mC, wp_mV, wp_mMove, wp_peek, wp_setS, wp_chk, wp_chg', wp_mCall, wp_mCallR, wp_sAug, wp_sAugI, wp_sSeq, wp_mComp, wp_run_nm, wp_run_ex, wp_get_nm, wp_get_ex, wp_mUn, wp_mBin, wp_runs_nil, wp_runs_cons, wp_gets_nil, wp_gets_cons, wp_mFn, wp_it_nil, wp_it_one, wp_it_star, wp_mTup, wp_mLst, wp_mT, wp_mNot, wp_mAnd, wp_mOr, wp_mBl, wp_asT, wp_mAndV, wp_mOrV, wp_mNotB, wp_mIf, wp_mYes, wp_itSeq, wp_itRng, wp_itEnum, wp_itZip, wp_lstRng, wp_tupRng, wp_part_none, wp_part_some, wp_mSl, wp_put_nm, wp_put_tup, wp_putAll_nil, wp_putAll_cons, wp_sNx, wp_sSet, wp_sPut, wp_temps_nil, wp_temps_cons, wp_setAll_nil, wp_setAll_cons, wp_sPar, wp_sDrop, wp_sRet, wp_sIf, wp_sFor, wp_sItem, wp_sApp, wp_sIns, wp_turn1, dat_fz, dat_ow, truth_int, truth_bool, truth_list, truth_tup, asBool_bool, intOf_int, seqOf_list, seqOf_tup, add_int, add_tup, add_list, sub_int, mul_int, mul_tup, mul_list, mod_int, fdiv_int, neg_int, lt_int, le_int, gt_int, ge_int, eq_int, ne_int, is_non, isnot_non, isNon, sl_list, sl_tup, len_list, len_tup, int_int, abs_int, max_2, max_3, min_2, min_3, tuple_list, tuple_tup, list_list, list_tup, app_D, ins_D, oIx_list, oIx_tup, getAt_0, getAt_1, getAt_2, getAt_3, putAt_0, putAt_1, putAt_2, ite_and, if_true, if_false, Bool.false_eq_true, ↓reduceIte, List.getElem?_cons_zero, List.getElem?_cons_succ, List.set_cons_zero, List.set_cons_succ, List.length_cons, List.length_nil, List.length_set, isOw_ow, isOw_fz, isOw_none, Nat.reduceAdd, Nat.reduceLT, Nat.reduceEqDiff, Nat.reduceSub, Int.reduceLT, Int.reduceLE, true_and, and_true, List.map_cons, List.map_nil, List.append_nil, List.nil_append, List.cons_append, List.replicate, wipeR, restore, noOw, List.all_cons, List.all_nil, Bool.not_false, Bool.not_true, Bool.and_true, Bool.and_self, szOk, Nat.reduceLeDiff, Option.getD_some, Option.getD_none, decide_eq_true_eq, Nat.zero_add, out0, List.length_map, lr, getAt_last]
        refine ⟨rs ++ [min left z], left - min left z, b3, _, .inr (by simp), by rw [List.length_append]; simp only [List.length_cons, List.length_nil]; omega, by rw [List.length_append]; simp only [List.length_cons, List.length_nil]; omega, fun x hx => ?_, by omega, (fun h => nomatch h), hb3, by rw [ints_app, ints_one]⟩
        rcases List.mem_append.mp hx with hx | hx
        · exact g3 x hx
        · rw [List.mem_singleton.mp hx]; omega
      · rw [if_neg c2]
        exact ⟨rs, left, b', _, .inr (no fun h => c2 h.2), by omega, g2, g3, g4, (fun h => nomatch h), hb', rfl⟩
    · rw [if_neg c1]
      exact ⟨rs, left, b', _, .inr (no fun h => c1 h.1), by omega, g2, g3, g4, (fun h => nomatch h), hb', rfl⟩
  · obtain ⟨rs, left, b', x7, g0, g1, g2, g3, g4, g5, hb', rfl⟩ := h
    obtain ⟨M, rfl⟩ := Int.eq_ofNat_of_zero_le m0
    simp -implicitDefEqProofs only [wp_bnd, wp_ret, wp_lift, wpV_some, wpV_none, wpV_ite, wpV_map, wp_stop, wp_ite, wp_mC, wp_mV, wp_mMove, wp_peek, wp_setS, wp_chk, wp_chg', wp_mCall, wp_mCallR, wp_sAug, wp_sAugI, wp_sSeq, wp_mComp, wp_run_nm, wp_run_ex, wp_get_nm, wp_get_ex, wp_mUn, wp_mBin, wp_runs_nil, wp_runs_cons, wp_gets_nil, wp_gets_cons, wp_mFn, wp_it_nil, wp_it_one, wp_it_star, wp_mTup, wp_mLst, wp_mT, wp_mNot, wp_mAnd, wp_mOr, wp_mBl, wp_asT, wp_mAndV, wp_mOrV, wp_mNotB, wp_mIf, wp_mYes, wp_itSeq, wp_itRng, wp_itEnum, wp_itZip, wp_lstRng, wp_tupRng, wp_part_none, wp_part_some, wp_mSl, wp_put_nm, wp_put_tup, wp_putAll_nil, wp_putAll_cons, wp_sNx, wp_sSet, wp_sPut, wp_temps_nil, wp_temps_cons, wp_setAll_nil, wp_setAll_cons, wp_sPar, wp_sDrop, wp_sRet, wp_sIf, wp_sFor, wp_sItem, wp_sApp, wp_sIns, wp_turn1, dat_fz, dat_ow, truth_int, truth_bool, truth_list, truth_tup, asBool_bool, intOf_int, seqOf_list, seqOf_tup, add_int, add_tup, add_list, sub_int, mul_int, mul_tup, mul_list, mod_int, fdiv_int, neg_int, lt_int, le_int, gt_int, ge_int, eq_int, ne_int, is_non, isnot_non, isNon, sl_list, sl_tup, len_list, len_tup, int_int, abs_int, max_2, max_3, min_2, min_3, tuple_list, tuple_tup, list_list, list_tup, app_D, ins_D, oIx_list, oIx_tup, getAt_0, getAt_1, getAt_2, getAt_3, putAt_0, putAt_1, putAt_2, ite_and, if_true, if_false, Bool.false_eq_true, ↓reduceIte, List.getElem?_cons_zero, List.getElem?_cons_succ, List.set_cons_zero, List.set_cons_succ, List.length_cons, List.length_nil, List.length_set, isOw_ow, isOw_fz, isOw_none, Nat.reduceAdd, Nat.reduceLT, Nat.reduceEqDiff, Nat.reduceSub, Int.reduceLT, Int.reduceLE, true_and, and_true, List.map_cons, List.map_nil, List.append_nil, List.nil_append, List.cons_append, List.replicate, wipeR, restore, noOw, List.all_cons, List.all_nil, Bool.not_false, Bool.not_true, Bool.and_true, Bool.and_self, szOk, Nat.reduceLeDiff, Option.getD_some, Option.getD_none, decide_eq_true_eq, Nat.zero_add, out0, List.length_map]
    exact ⟨min M T, rs, b', by rw [show ((min M T : Nat) : Int) = min (M : Int) (T : Int) by omega], by omega, g0.resolve_left (by omega), g2, g3, rfl, hb'⟩
end K11

/-! K11r: a knowledge that is tight. -/
namespace K11
open PySem FK FW
/-- sizes that fit m things -/
structure Sz (m : Nat) (ss : List Int) : Prop where
  nil : ss ≠ []
  up : upF 0 ss
  le : ∀ x ∈ ss, x ≤ (m : Int)
theorem upF_snoc : ∀ {ss : List Int} {a x : Int}, upF a ss → a ≤ x → (∀ y ∈ ss, y ≤ x) → upF a (ss ++ [x])
  | [], a, x, _, h, _ => ⟨h, trivial⟩
  | s :: ss, a, x, u, h, g => ⟨u.1, upF_snoc u.2 (g s (List.mem_cons_self ..)) fun y hy => g y (List.mem_cons_of_mem _ hy)⟩
theorem upF_nn : ∀ {ss : List Int} {a : Int}, upF a ss → ∀ y ∈ ss, a ≤ y
  | s :: ss, a, u, y, hy => by
    rcases List.mem_cons.mp hy with rfl | hy
    · exact u.1
    · have := upF_nn u.2 y hy
      have := u.1
      omega
/-- a row that is drawn -/
theorem b2_known {b : Bag} {m : Nat} {mi : Int} {rs : List Int} {O S x5 x6 x9 x10 x11 x8 : Option Val} {s : Int} {rows : List (List Int)} (hmi : mi = (m : Int)) (hb : b.cells.length ≤ 1000) (hm : m ≤ 100) (hs : 0 ≤ s ∧ s ≤ (m : Int)) (hr : rows.length ≤ 1000) (h9 : isOw (some x9) = false) (h10 : isOw (some x10) = false) :
    wp b2__law_tight_known [some (.ow b.d), some (.fz (.tuple [.int mi, tupI rs])), O, S, some (.fz (.int s)), x5, x6, some (.ow (rows.map tupI)), x8, x9, x10, x11] fun f ρ => f = .nx ∧ ∃ r, ∃ b' : Bag, ∃ x8, r.length = m + 1 ∧ b'.cells.length ≤ 1000 ∧
      ρ = [some (.ow b'.d), some (.fz (.tuple [.int mi, tupI rs])), O, S, some (.fz (.int s)), x5, x6, some (.ow ((rows ++ [r]).map tupI)), x8, x9, x10, x11] := by
  have hm3 : m + 1 ≤ 1000000 := by omega
  have eM : mi + 1 = ((m + 1 : Nat) : Int) := by omega
  have lr : rows.length < 16777216 := by omega
  unfold b2__law_tight_known
  rw [wp_sSeq]
  refine wp.mono (Q := fun f ρ => f = .nx ∧ ∃ P : List (Int × Nat), ∃ b' : Bag, P.length = m + 1 ∧ b'.cells.length ≤ 1000 ∧ (∀ q ∈ P, q.2 ≤ m) ∧
    ρ = [some (.ow b'.d), some (.fz (.tuple [.int mi, tupI rs])), O, S, some (.fz (.int s)), x5, x6, some (.ow (rows.map tupI)), some (.ow (P.map fun q => PyData.tuple [.int q.1, .int (q.2 : Int)])), x9, x10, x11]) ?_ ?_
  · simp -implicitDefEqProofs only [wp_bnd, wp_ret, wp_lift, wpV_some, wpV_none, wpV_ite, wpV_map, wp_stop, wp_ite, wp_mC, wp_mV, wp_mMove, wp_peek, wp_setS, wp_chk, wp_chg', wp_mCall, wp_mCallR, wp_sAug, wp_sAugI, wp_sSeq, wp_mComp, wp_run_nm, wp_run_ex, wp_get_nm, wp_get_ex, wp_mUn, wp_mBin, wp_runs_nil, wp_runs_cons, wp_gets_nil, wp_gets_cons, wp_mFn, wp_it_nil, wp_it_one, wp_it_star, wp_mTup, wp_mLst, wp_mT, wp_mNot, wp_mAnd, wp_mOr, wp_mBl, wp_asT, wp_mAndV, wp_mOrV, wp_mNotB, wp_mIf, wp_mYes, wp_itSeq, wp_itRng, wp_itEnum, wp_itZip, wp_lstRng, wp_tupRng, wp_part_none, wp_part_some, wp_mSl, wp_put_nm, wp_put_tup, wp_putAll_nil, wp_putAll_cons, wp_sNx, wp_sSet, wp_sPut, wp_temps_nil, wp_temps_cons, wp_setAll_nil, wp_setAll_cons, wp_sPar, wp_sDrop, wp_sRet, wp_sIf, wp_sFor, wp_sItem, wp_sApp, wp_sIns, wp_turn1, dat_fz, dat_ow, truth_int, truth_bool, truth_list, truth_tup, asBool_bool, intOf_int, seqOf_list, seqOf_tup, add_int, add_tup, add_list, sub_int, mul_int, mul_tup, mul_list, mod_int, fdiv_int, neg_int, lt_int, le_int, gt_int, ge_int, eq_int, ne_int, is_non, isnot_non, isNon, sl_list, sl_tup, len_list, len_tup, int_int, abs_int, max_2, max_3, min_2, min_3, tuple_list, tuple_tup, list_list, list_tup, app_D, ins_D, oIx_list, oIx_tup, getAt_0, getAt_1, getAt_2, getAt_3, putAt_0, putAt_1, putAt_2, ite_and, if_true, if_false, Bool.false_eq_true, ↓reduceIte, List.getElem?_cons_zero, List.getElem?_cons_succ, List.set_cons_zero, List.set_cons_succ, List.length_cons, List.length_nil, List.length_set, isOw_ow, isOw_fz, isOw_none, Nat.reduceAdd, Nat.reduceLT, Nat.reduceEqDiff, Nat.reduceSub, Int.reduceLT, Int.reduceLE, true_and, and_true, List.map_cons, List.map_nil, List.append_nil, List.nil_append, List.cons_append, List.replicate, wipeR, restore, noOw, List.all_cons, List.all_nil, Bool.not_false, Bool.not_true, Bool.and_true, Bool.and_self, szOk, Nat.reduceLeDiff, Option.getD_some, Option.getD_none, decide_eq_true_eq, Nat.zero_add, out0, List.length_map, eM, rng_one hm3, h9]
    refine (wp_compL (enc := fun (k : Nat) => PyData.int (k : Int)) (Q := fun out ρ => ∃ P : List (Int × Nat), ∃ b' : Bag, out = (P.map fun q => PyData.tuple [.int q.1, .int (q.2 : Int)]) ∧ P.length = m + 1 ∧ b'.cells.length ≤ 1000 ∧ (∀ q ∈ P, q.2 ≤ m) ∧
      ρ = [some (.ow b'.d), some (.fz (.tuple [.int mi, tupI rs])), O, S, some (.fz (.int s)), x5, x6, some (.ow (rows.map tupI)), x8, none, x10, x11])
      (fun done rest out ρ => ∃ P : List (Int × Nat), ∃ b' : Bag, out = (P.map fun q => PyData.tuple [.int q.1, .int (q.2 : Int)]) ∧ P.length = done.length ∧ done ++ rest = List.range (m + 1) ∧ b'.cells.length ≤ 1000 ∧ (∀ q ∈ P, q.2 ≤ m) ∧
      ρ = [some (.ow b'.d), some (.fz (.tuple [.int mi, tupI rs])), O, S, some (.fz (.int s)), x5, x6, some (.ow (rows.map tupI)), x8, none, x10, x11]) (fun done a rest out ρ h => ?_) (fun done out ρ h => ?_) (List.range (m + 1)) [] [] _ ⟨[], b, rfl, rfl, rfl, hb, (fun _ h => nomatch h), rfl⟩).mono ?_
    · obtain ⟨P, b', rfl, e1, e2, hb', e3, rfl⟩ := h
      have ha : a ≤ m := by
        have : a ∈ List.range (m + 1) := by rw [← e2]; simp
        have := List.mem_range.mp this
        omega
      simp -implicitDefEqProofs only [wp_bnd, wp_ret, wp_lift, wpV_some, wpV_none, wpV_ite, wpV_map, wp_stop, wp_ite, wp_mC, wp_mV, wp_mMove, wp_peek, wp_setS, wp_chk, wp_chg', wp_mCall, wp_mCallR, wp_sAug, wp_sAugI, wp_sSeq, wp_mComp, wp_run_nm, wp_run_ex, wp_get_nm, wp_get_ex, wp_mUn, wp_mBin, wp_runs_nil, wp_runs_cons, wp_gets_nil, wp_gets_cons, wp_mFn, wp_it_nil, wp_it_one, wp_it_star, wp_mTup, wp_mLst, wp_mT, wp_mNot, wp_mAnd, wp_mOr, wp_mBl, wp_asT, wp_mAndV, wp_mOrV, wp_mNotB, wp_mIf, wp_mYes, wp_itSeq, wp_itRng, wp_itEnum, wp_itZip, wp_lstRng, wp_tupRng, wp_part_none, wp_part_some, wp_mSl, wp_put_nm, wp_put_tup, wp_putAll_nil, wp_putAll_cons, wp_sNx, wp_sSet, wp_sPut, wp_temps_nil, wp_temps_cons, wp_setAll_nil, wp_setAll_cons, wp_sPar, wp_sDrop, wp_sRet, wp_sIf, wp_sFor, wp_sItem, wp_sApp, wp_sIns, wp_turn1, dat_fz, dat_ow, truth_int, truth_bool, truth_list, truth_tup, asBool_bool, intOf_int, seqOf_list, seqOf_tup, add_int, add_tup, add_list, sub_int, mul_int, mul_tup, mul_list, mod_int, fdiv_int, neg_int, lt_int, le_int, gt_int, ge_int, eq_int, ne_int, is_non, isnot_non, isNon, sl_list, sl_tup, len_list, len_tup, int_int, abs_int, max_2, max_3, min_2, min_3, tuple_list, tuple_tup, list_list, list_tup, app_D, ins_D, oIx_list, oIx_tup, getAt_0, getAt_1, getAt_2, getAt_3, putAt_0, putAt_1, putAt_2, ite_and, if_true, if_false, Bool.false_eq_true, ↓reduceIte, List.getElem?_cons_zero, List.getElem?_cons_succ, List.set_cons_zero, List.set_cons_succ, List.length_cons, List.length_nil, List.length_set, isOw_ow, isOw_fz, isOw_none, Nat.reduceAdd, Nat.reduceLT, Nat.reduceEqDiff, Nat.reduceSub, Int.reduceLT, Int.reduceLE, true_and, and_true, List.map_cons, List.map_nil, List.append_nil, List.nil_append, List.cons_append, List.replicate, wipeR, restore, noOw, List.all_cons, List.all_nil, Bool.not_false, Bool.not_true, Bool.and_true, Bool.and_self, szOk, Nat.reduceLeDiff, Option.getD_some, Option.getD_none, decide_eq_true_eq, Nat.zero_add, out0, List.length_map]
      refine ⟨rfl, (tk hb' (n := 3) (by omega) (by omega)).mono ?_⟩
      rintro _ _ ⟨k, b2, k0, k1, rfl, rfl, hb2⟩
      simp -implicitDefEqProofs only [wp_bnd, wp_ret, wp_lift, wpV_some, wpV_none, wpV_ite, wpV_map, wp_stop, wp_ite, wp_mC, wp_mV, wp_mMove, wp_peek, wp_setS, wp_chk, wp_chg', wp_mCall, wp_mCallR, wp_sAug, wp_sAugI, wp_sSeq, wp_mComp, wp_run_nm, wp_run_ex, wp_get_nm, wp_get_ex, wp_mUn, wp_mBin, wp_runs_nil, wp_runs_cons, wp_gets_nil, wp_gets_cons, wp_mFn, wp_it_nil, wp_it_one, wp_it_star, wp_mTup, wp_mLst, wp_mT, wp_mNot, wp_mAnd, wp_mOr, wp_mBl, wp_asT, wp_mAndV, wp_mOrV, wp_mNotB, wp_mIf, wp_mYes, wp_itSeq, wp_itRng, wp_itEnum, wp_itZip, wp_lstRng, wp_tupRng, wp_part_none, wp_part_some, wp_mSl, wp_put_nm, wp_put_tup, wp_putAll_nil, wp_putAll_cons, wp_sNx, wp_sSet, wp_sPut, wp_temps_nil, wp_temps_cons, wp_setAll_nil, wp_setAll_cons, wp_sPar, wp_sDrop, wp_sRet, wp_sIf, wp_sFor, wp_sItem, wp_sApp, wp_sIns, wp_turn1, dat_fz, dat_ow, truth_int, truth_bool, truth_list, truth_tup, asBool_bool, intOf_int, seqOf_list, seqOf_tup, add_int, add_tup, add_list, sub_int, mul_int, mul_tup, mul_list, mod_int, fdiv_int, neg_int, lt_int, le_int, gt_int, ge_int, eq_int, ne_int, is_non, isnot_non, isNon, sl_list, sl_tup, len_list, len_tup, int_int, abs_int, max_2, max_3, min_2, min_3, tuple_list, tuple_tup, list_list, list_tup, app_D, ins_D, oIx_list, oIx_tup, getAt_0, getAt_1, getAt_2, getAt_3, putAt_0, putAt_1, putAt_2, ite_and, if_true, if_false, Bool.false_eq_true, ↓reduceIte, List.getElem?_cons_zero, List.getElem?_cons_succ, List.set_cons_zero, List.set_cons_succ, List.length_cons, List.length_nil, List.length_set, isOw_ow, isOw_fz, isOw_none, Nat.reduceAdd, Nat.reduceLT, Nat.reduceEqDiff, Nat.reduceSub, Int.reduceLT, Int.reduceLE, true_and, and_true, List.map_cons, List.map_nil, List.append_nil, List.nil_append, List.cons_append, List.replicate, wipeR, restore, noOw, List.all_cons, List.all_nil, Bool.not_false, Bool.not_true, Bool.and_true, Bool.and_self, szOk, Nat.reduceLeDiff, Option.getD_some, Option.getD_none, decide_eq_true_eq, Nat.zero_add, out0, List.length_map]
      refine ⟨P ++ [(k, a)], b2, by rw [List.map_append]; rfl, by rw [List.length_append, List.length_append, e1]; rfl, by rw [List.append_assoc]; exact e2, hb2, fun q hq => ?_, rfl⟩
      rcases List.mem_append.mp hq with hq | hq
      · exact e3 q hq
      · rw [List.mem_singleton.mp hq]; exact ha
    · obtain ⟨P, b', rfl, e1, e2, hb', e3, rfl⟩ := h
      refine ⟨P, b', rfl, ?_, hb', e3, rfl⟩
      rw [e1, ← List.append_nil done, e2, List.length_range]
    · rintro r ρ ⟨P, b', e0, e1, hb', e3, rfl⟩
      rw [List.nil_append] at e0
      subst e0
      simp -implicitDefEqProofs only [wp_bnd, wp_ret, wp_lift, wpV_some, wpV_none, wpV_ite, wpV_map, wp_stop, wp_ite, wp_mC, wp_mV, wp_mMove, wp_peek, wp_setS, wp_chk, wp_chg', wp_mCall, wp_mCallR, wp_sAug, wp_sAugI, wp_sSeq, wp_mComp, wp_run_nm, wp_run_ex, wp_get_nm, wp_get_ex, wp_mUn, wp_mBin, wp_runs_nil, wp_runs_cons, wp_gets_nil, wp_gets_cons, wp_mFn, wp_it_nil, wp_it_one, wp_it_star, wp_mTup, wp_mLst, wp_mT, wp_mNot, wp_mAnd, wp_mOr, wp_mBl, wp_asT, wp_mAndV, wp_mOrV, wp_mNotB, wp_mIf, wp_mYes, wp_itSeq, wp_itRng, wp_itEnum, wp_itZip, wp_lstRng, wp_tupRng, wp_part_none, wp_part_some, wp_mSl, wp_put_nm, wp_put_tup, wp_putAll_nil, wp_putAll_cons, wp_sNx, wp_sSet, wp_sPut, wp_temps_nil, wp_temps_cons, wp_setAll_nil, wp_setAll_cons, wp_sPar, wp_sDrop, wp_sRet, wp_sIf, wp_sFor, wp_sItem, wp_sApp, wp_sIns, wp_turn1, dat_fz, dat_ow, truth_int, truth_bool, truth_list, truth_tup, asBool_bool, intOf_int, seqOf_list, seqOf_tup, add_int, add_tup, add_list, sub_int, mul_int, mul_tup, mul_list, mod_int, fdiv_int, neg_int, lt_int, le_int, gt_int, ge_int, eq_int, ne_int, is_non, isnot_non, isNon, sl_list, sl_tup, len_list, len_tup, int_int, abs_int, max_2, max_3, min_2, min_3, tuple_list, tuple_tup, list_list, list_tup, app_D, ins_D, oIx_list, oIx_tup, getAt_0, getAt_1, getAt_2, getAt_3, putAt_0, putAt_1, putAt_2, ite_and, if_true, if_false, Bool.false_eq_true, ↓reduceIte, List.getElem?_cons_zero, List.getElem?_cons_succ, List.set_cons_zero, List.set_cons_succ, List.length_cons, List.length_nil, List.length_set, isOw_ow, isOw_fz, isOw_none, Nat.reduceAdd, Nat.reduceLT, Nat.reduceEqDiff, Nat.reduceSub, Int.reduceLT, Int.reduceLE, true_and, and_true, List.map_cons, List.map_nil, List.append_nil, List.nil_append, List.cons_append, List.replicate, wipeR, restore, noOw, List.all_cons, List.all_nil, Bool.not_false, Bool.not_true, Bool.and_true, Bool.and_self, szOk, Nat.reduceLeDiff, Option.getD_some, Option.getD_none, decide_eq_true_eq, Nat.zero_add, out0, List.length_map]
      exact ⟨P, b', e1, hb', e3, rfl⟩
  · rintro _ _ ⟨rfl, P, b', e1, hb', e3, rfl⟩
    simp -implicitDefEqProofs only [wp_bnd, wp_ret, wp_lift, wpV_some, wpV_none, wpV_ite, wpV_map, wp_stop, wp_ite, wp_mC, wp_mV, wp_mMove, wp_peek, wp_setS, wp_chk, wp_chg', wp_mCall, wp_mCallR, wp_sAug, wp_sAugI, wp_sSeq, wp_mComp, wp_run_nm, wp_run_ex, wp_get_nm, wp_get_ex, wp_mUn, wp_mBin, wp_runs_nil, wp_runs_cons, wp_gets_nil, wp_gets_cons, wp_mFn, wp_it_nil, wp_it_one, wp_it_star, wp_mTup, wp_mLst, wp_mT, wp_mNot, wp_mAnd, wp_mOr, wp_mBl, wp_asT, wp_mAndV, wp_mOrV, wp_mNotB, wp_mIf, wp_mYes, wp_itSeq, wp_itRng, wp_itEnum, wp_itZip, wp_lstRng, wp_tupRng, wp_part_none, wp_part_some, wp_mSl, wp_put_nm, wp_put_tup, wp_putAll_nil, wp_putAll_cons, wp_sNx, wp_sSet, wp_sPut, wp_temps_nil, wp_temps_cons, wp_setAll_nil, wp_setAll_cons, wp_sPar, wp_sDrop, wp_sRet, wp_sIf, wp_sFor, wp_sItem, wp_sApp, wp_sIns, wp_turn1, dat_fz, dat_ow, truth_int, truth_bool, truth_list, truth_tup, asBool_bool, intOf_int, seqOf_list, seqOf_tup, add_int, add_tup, add_list, sub_int, mul_int, mul_tup, mul_list, mod_int, fdiv_int, neg_int, lt_int, le_int, gt_int, ge_int, eq_int, ne_int, is_non, isnot_non, isNon, sl_list, sl_tup, len_list, len_tup, int_int, abs_int, max_2, max_3, min_2, min_3, tuple_list, tuple_tup, list_list, list_tup, app_D, ins_D, oIx_list, oIx_tup, getAt_0, getAt_1, getAt_2, getAt_3, putAt_0, putAt_1, putAt_2, ite_and, if_true, if_false, Bool.false_eq_true, ↓reduceIte, List.getElem?_cons_zero, List.getElem?_cons_succ, List.set_cons_zero, List.set_cons_succ, List.length_cons, List.length_nil, List.length_set, isOw_ow, isOw_fz, isOw_none, Nat.reduceAdd, Nat.reduceLT, Nat.reduceEqDiff, Nat.reduceSub, Int.reduceLT, Int.reduceLE, true_and, and_true, List.map_cons, List.map_nil, List.append_nil, List.nil_append, List.cons_append, List.replicate, wipeR, restore, noOw, List.all_cons, List.all_nil, Bool.not_false, Bool.not_true, Bool.and_true, Bool.and_self, szOk, Nat.reduceLeDiff, Option.getD_some, Option.getD_none, decide_eq_true_eq, Nat.zero_add, out0, List.length_map, h9, h10]
    refine (wp_compL (enc := fun (q : Int × Nat) => PyData.tuple [.int q.1, .int (q.2 : Int)]) (Q := fun out ρ => ∃ r, ∃ b' : Bag, out = intsD r ∧ r.length = m + 1 ∧ b'.cells.length ≤ 1000 ∧
      ρ = [some (.ow b'.d), some (.fz (.tuple [.int mi, tupI rs])), O, S, some (.fz (.int s)), x5, x6, some (.ow (rows.map tupI)), some (.fz (.list (P.map fun q => PyData.tuple [.int q.1, .int (q.2 : Int)]))), none, none, x11])
      (fun done rest out ρ => ∃ r, ∃ b' : Bag, out = intsD r ∧ r.length = done.length ∧ done ++ rest = P ∧ b'.cells.length ≤ 1000 ∧
      ρ = [some (.ow b'.d), some (.fz (.tuple [.int mi, tupI rs])), O, S, some (.fz (.int s)), x5, x6, some (.ow (rows.map tupI)), some (.fz (.list (P.map fun q => PyData.tuple [.int q.1, .int (q.2 : Int)]))), none, none, x11]) (fun done a rest out ρ h => ?_) (fun done out ρ h => ?_) P [] [] _ ⟨[], b', rfl, rfl, rfl, hb', rfl⟩).mono ?_
    · obtain ⟨r, b2, rfl, g1, g2, hb2, rfl⟩ := h
      have ha : a.2 ≤ m := e3 a (by rw [← g2]; simp)
      obtain ⟨k, q⟩ := a
      simp -implicitDefEqProofs only [wp_bnd, wp_ret, wp_lift, wpV_some, wpV_none, wpV_ite, wpV_map, wp_stop, wp_ite, wp_mC, wp_mV, wp_mMove, wp_peek, wp_setS, wp_chk, wp_chg', wp_mCall, wp_mCallR, wp_sAug, wp_sAugI, wp_sSeq, wp_mComp, wp_run_nm, wp_run_ex, wp_get_nm, wp_get_ex, wp_mUn, wp_mBin, wp_runs_nil, wp_runs_cons, wp_gets_nil, wp_gets_cons, wp_mFn, wp_it_nil, wp_it_one, wp_it_star, wp_mTup, wp_mLst, wp_mT, wp_mNot, wp_mAnd, wp_mOr, wp_mBl, wp_asT, wp_mAndV, wp_mOrV, wp_mNotB, wp_mIf, wp_mYes, wp_itSeq, wp_itRng, wp_itEnum, wp_itZip, wp_lstRng, wp_tupRng, wp_part_none, wp_part_some, wp_mSl, wp_put_nm, wp_put_tup, wp_putAll_nil, wp_putAll_cons, wp_sNx, wp_sSet, wp_sPut, wp_temps_nil, wp_temps_cons, wp_setAll_nil, wp_setAll_cons, wp_sPar, wp_sDrop, wp_sRet, wp_sIf, wp_sFor, wp_sItem, wp_sApp, wp_sIns, wp_turn1, dat_fz, dat_ow, truth_int, truth_bool, truth_list, truth_tup, asBool_bool, intOf_int, seqOf_list, seqOf_tup, add_int, add_tup, add_list, sub_int, mul_int, mul_tup, mul_list, mod_int, fdiv_int, neg_int, lt_int, le_int, gt_int, ge_int, eq_int, ne_int, is_non, isnot_non, isNon, sl_list, sl_tup, len_list, len_tup, int_int, abs_int, max_2, max_3, min_2, min_3, tuple_list, tuple_tup, list_list, list_tup, app_D, ins_D, oIx_list, oIx_tup, getAt_0, getAt_1, getAt_2, getAt_3, putAt_0, putAt_1, putAt_2, ite_and, if_true, if_false, Bool.false_eq_true, ↓reduceIte, List.getElem?_cons_zero, List.getElem?_cons_succ, List.set_cons_zero, List.set_cons_succ, List.length_cons, List.length_nil, List.length_set, isOw_ow, isOw_fz, isOw_none, Nat.reduceAdd, Nat.reduceLT, Nat.reduceEqDiff, Nat.reduceSub, Int.reduceLT, Int.reduceLE, true_and, and_true, List.map_cons, List.map_nil, List.append_nil, List.nil_append, List.cons_append, List.replicate, wipeR, restore, noOw, List.all_cons, List.all_nil, Bool.not_false, Bool.not_true, Bool.and_true, Bool.and_self, szOk, Nat.reduceLeDiff, Option.getD_some, Option.getD_none, decide_eq_true_eq, Nat.zero_add, out0, List.length_map]
      by_cases c : k = 0
      · rw [if_pos c]
        refine ⟨rfl, (tk hb2 (n := (q : Int) + 1) (by omega) (by simp only at ha; omega)).mono ?_⟩
        rintro _ _ ⟨z, b3, z0, z1, rfl, rfl, hb3⟩
        simp -implicitDefEqProofs only [wp_bnd, wp_ret, wp_lift, wpV_some, wpV_none, wpV_ite, wpV_map, wp_stop, wp_ite, wp_mC, wp_mV, wp_mMove, wp_peek, wp_setS, wp_chk, wp_chg', wp_mCall, wp_mCallR, wp_sAug, wp_sAugI, wp_sSeq, wp_mComp, wp_run_nm, wp_run_ex, wp_get_nm, wp_get_ex, wp_mUn, wp_mBin, wp_runs_nil, wp_runs_cons, wp_gets_nil, wp_gets_cons, wp_mFn, wp_it_nil, wp_it_one, wp_it_star, wp_mTup, wp_mLst, wp_mT, wp_mNot, wp_mAnd, wp_mOr, wp_mBl, wp_asT, wp_mAndV, wp_mOrV, wp_mNotB, wp_mIf, wp_mYes, wp_itSeq, wp_itRng, wp_itEnum, wp_itZip, wp_lstRng, wp_tupRng, wp_part_none, wp_part_some, wp_mSl, wp_put_nm, wp_put_tup, wp_putAll_nil, wp_putAll_cons, wp_sNx, wp_sSet, wp_sPut, wp_temps_nil, wp_temps_cons, wp_setAll_nil, wp_setAll_cons, wp_sPar, wp_sDrop, wp_sRet, wp_sIf, wp_sFor, wp_sItem, wp_sApp, wp_sIns, wp_turn1, dat_fz, dat_ow, truth_int, truth_bool, truth_list, truth_tup, asBool_bool, intOf_int, seqOf_list, seqOf_tup, add_int, add_tup, add_list, sub_int, mul_int, mul_tup, mul_list, mod_int, fdiv_int, neg_int, lt_int, le_int, gt_int, ge_int, eq_int, ne_int, is_non, isnot_non, isNon, sl_list, sl_tup, len_list, len_tup, int_int, abs_int, max_2, max_3, min_2, min_3, tuple_list, tuple_tup, list_list, list_tup, app_D, ins_D, oIx_list, oIx_tup, getAt_0, getAt_1, getAt_2, getAt_3, putAt_0, putAt_1, putAt_2, ite_and, if_true, if_false, Bool.false_eq_true, ↓reduceIte, List.getElem?_cons_zero, List.getElem?_cons_succ, List.set_cons_zero, List.set_cons_succ, List.length_cons, List.length_nil, List.length_set, isOw_ow, isOw_fz, isOw_none, Nat.reduceAdd, Nat.reduceLT, Nat.reduceEqDiff, Nat.reduceSub, Int.reduceLT, Int.reduceLE, true_and, and_true, List.map_cons, List.map_nil, List.append_nil, List.nil_append, List.cons_append, List.replicate, wipeR, restore, noOw, List.all_cons, List.all_nil, Bool.not_false, Bool.not_true, Bool.and_true, Bool.and_self, szOk, Nat.reduceLeDiff, Option.getD_some, Option.getD_none, decide_eq_true_eq, Nat.zero_add, out0, List.length_map]
        exact ⟨r ++ [min (min (q : Int) s) z], b3, by rw [ints_app, ints_one], by rw [List.length_append, List.length_append, g1]; rfl, by rw [List.append_assoc]; exact g2, hb3, rfl⟩
      · rw [if_neg c]
        exact ⟨r ++ [0], b2, by rw [ints_app, ints_one], by rw [List.length_append, List.length_append, g1]; rfl, by rw [List.append_assoc]; exact g2, hb2, rfl⟩
    · obtain ⟨r, b2, rfl, g1, g2, hb2, rfl⟩ := h
      refine ⟨r, b2, rfl, ?_, hb2, rfl⟩
      rw [g1, ← List.append_nil done, g2, e1]
    · rintro r ρ ⟨r', b2, g0, g1, hb2, rfl⟩
      rw [List.nil_append] at g0
      subst g0
      simp -implicitDefEqProofs only [wp_bnd, wp_ret, wp_lift, wpV_some, wpV_none, wpV_ite, wpV_map, wp_stop, wp_ite, wp_mC, wp_mV, wp_mMove, wp_peek, wp_setS, wp_chk, wp_chg', wp_mCall, wp_mCallR, wp_sAug, wp_sAugI, wp_sSeq, wp_mComp, wp_run_nm, wp_run_ex, wp_get_nm, wp_get_ex, wp_mUn, wp_mBin, wp_runs_nil, wp_runs_cons, wp_gets_nil, wp_gets_cons, wp_mFn, wp_it_nil, wp_it_one, wp_it_star, wp_mTup, wp_mLst, wp_mT, wp_mNot, wp_mAnd, wp_mOr, wp_mBl, wp_asT, wp_mAndV, wp_mOrV, wp_mNotB, wp_mIf, wp_mYes, wp_itSeq, wp_itRng, wp_itEnum, wp_itZip, wp_lstRng, wp_tupRng, wp_part_none, wp_part_some, wp_mSl, wp_put_nm, wp_put_tup, wp_putAll_nil, wp_putAll_cons, wp_sNx, wp_sSet, wp_sPut, wp_temps_nil, wp_temps_cons, wp_setAll_nil, wp_setAll_cons, wp_sPar, wp_sDrop, wp_sRet, wp_sIf, wp_sFor, wp_sItem, wp_sApp, wp_sIns, wp_turn1, dat_fz, dat_ow, truth_int, truth_bool, truth_list, truth_tup, asBool_bool, intOf_int, seqOf_list, seqOf_tup, add_int, add_tup, add_list, sub_int, mul_int, mul_tup, mul_list, mod_int, fdiv_int, neg_int, lt_int, le_int, gt_int, ge_int, eq_int, ne_int, is_non, isnot_non, isNon, sl_list, sl_tup, len_list, len_tup, int_int, abs_int, max_2, max_3, min_2, min_3, tuple_list, tuple_tup, list_list, list_tup, app_D, ins_D, oIx_list, oIx_tup, getAt_0, getAt_1, getAt_2, getAt_3, putAt_0, putAt_1, putAt_2, ite_and, if_true, if_false, Bool.false_eq_true, ↓reduceIte, List.getElem?_cons_zero, List.getElem?_cons_succ, List.set_cons_zero, List.set_cons_succ, List.length_cons, List.length_nil, List.length_set, isOw_ow, isOw_fz, isOw_none, Nat.reduceAdd, Nat.reduceLT, Nat.reduceEqDiff, Nat.reduceSub, Int.reduceLT, Int.reduceLE, true_and, and_true, List.map_cons, List.map_nil, List.append_nil, List.nil_append, List.cons_append, List.replicate, wipeR, restore, noOw, List.all_cons, List.all_nil, Bool.not_false, Bool.not_true, Bool.and_true, Bool.and_self, szOk, Nat.reduceLeDiff, Option.getD_some, Option.getD_none, decide_eq_true_eq, Nat.zero_add, out0, List.length_map, lr]
      exact ⟨r', b2, _, g1, hb2, by rw [List.map_append]; rfl⟩
end K11

/-! K11s: a tight knowledge. -/
namespace K11
open PySem FK FW
theorem sizes_loop {b : Bag} {m : Nat} {mi : Int} {rs : List Int} {O : Option Val} {Q : Fl → Rho → Prop} (hmi : mi = (m : Int)) (hb : b.cells.length ≤ 1000) (hm : m ≤ 100) (h0 : rs ≠ []) (hl : rs.length ≤ 100) (hr : ∀ x ∈ rs, 1 ≤ x ∧ x ≤ 100)
    (fin : ∀ (ss : List Int) (b' : Bag) (x4 x5 : Option Val), Sz m ss → ss.length ≤ 100 → b'.cells.length ≤ 1000 → Q .nx [some (.ow b'.d), some (.fz (.tuple [.int mi, tupI rs])), O, some (.ow (intsD ss)), x4, x5, none, none, none, none, none, none]) :
    wp (forL (.nm 5) b1__law_tight_known (intsD rs)) [some (.ow b.d), some (.fz (.tuple [.int mi, tupI rs])), O, some (.ow []), some (.fz (.int 0)), none, none, none, none, none, none, none] Q := by
  refine wp_forL (enc := PyData.int) (fun done rest ρ => ∃ (ss : List Int) (s : Int), ∃ b' : Bag, ∃ x5, ss.length = done.length ∧ upF 0 ss ∧ (∀ y ∈ ss, y ≤ s) ∧ 0 ≤ s ∧ s ≤ mi ∧ done ++ rest = rs ∧ b'.cells.length ≤ 1000 ∧
    ρ = [some (.ow b'.d), some (.fz (.tuple [.int mi, tupI rs])), O, some (.ow (intsD ss)), some (.fz (.int s)), x5, none, none, none, none, none, none]) (fun done a rest ρ h => ?_) (fun done ρ h => ?_) rs [] _ ⟨[], 0, b, none, rfl, trivial, (fun _ h => nomatch h), by omega, by omega, rfl, hb, rfl⟩
  · obtain ⟨ss, s, b', x5, e1, e2, e3, e4, e5, e6, hb', rfl⟩ := h
    have ha := hr a (by rw [← e6]; simp)
    have ld : done.length < rs.length := by rw [← e6]; simp
    have ls : ss.length < 16777216 := by omega
    unfold b1__law_tight_known
    simp -implicitDefEqProofs only [wp_bnd, wp_ret, wp_lift, wpV_some, wpV_none, wpV_ite, wpV_map, wp_stop, wp_ite, wp_mC, wp_mV, wp_mMove, wp_peek, wp_setS, wp_chk, wp_chg', wp_mCall, wp_mCallR, wp_sAug, wp_sAugI, wp_sSeq, wp_mComp, wp_run_nm, wp_run_ex, wp_get_nm, wp_get_ex, wp_mUn, wp_mBin, wp_runs_nil, wp_runs_cons, wp_gets_nil, wp_gets_cons, wp_mFn, wp_it_nil, wp_it_one, wp_it_star, wp_mTup, wp_mLst, wp_mT, wp_mNot, wp_mAnd, wp_mOr, wp_mBl, wp_asT, wp_mAndV, wp_mOrV, wp_mNotB, wp_mIf, wp_mYes, wp_itSeq, wp_itRng, wp_itEnum, wp_itZip, wp_lstRng, wp_tupRng, wp_part_none, wp_part_some, wp_mSl, wp_put_nm, wp_put_tup, wp_putAll_nil, wp_putAll_cons, wp_sNx, wp_sSet, wp_sPut, wp_temps_nil, wp_temps_cons, wp_setAll_nil, wp_setAll_cons, wp_sPar, wp_sDrop, wp_sRet, wp_sIf, wp_sFor, wp_sItem, wp_sApp, wp_sIns, wp_turn1, dat_fz, dat_ow, truth_int, truth_bool, truth_list, truth_tup, asBool_bool, intOf_int, seqOf_list, seqOf_tup, add_int, add_tup, add_list, sub_int, mul_int, mul_tup, mul_list, mod_int, fdiv_int, neg_int, lt_int, le_int, gt_int, ge_int, eq_int, ne_int, is_non, isnot_non, isNon, sl_list, sl_tup, len_list, len_tup, int_int, abs_int, max_2, max_3, min_2, min_3, tuple_list, tuple_tup, list_list, list_tup, app_D, ins_D, oIx_list, oIx_tup, getAt_0, getAt_1, getAt_2, getAt_3, putAt_0, putAt_1, putAt_2, ite_and, if_true, if_false, Bool.false_eq_true, ↓reduceIte, List.getElem?_cons_zero, List.getElem?_cons_succ, List.set_cons_zero, List.set_cons_succ, List.length_cons, List.length_nil, List.length_set, isOw_ow, isOw_fz, isOw_none, Nat.reduceAdd, Nat.reduceLT, Nat.reduceEqDiff, Nat.reduceSub, Int.reduceLT, Int.reduceLE, true_and, and_true, List.map_cons, List.map_nil, List.append_nil, List.nil_append, List.cons_append, List.replicate, wipeR, restore, noOw, List.all_cons, List.all_nil, Bool.not_false, Bool.not_true, Bool.and_true, Bool.and_self, szOk, Nat.reduceLeDiff, Option.getD_some, Option.getD_none, decide_eq_true_eq, Nat.zero_add, out0, List.length_map]
    refine ⟨rfl, (tk hb' (n := a + 1) (by omega) (by omega)).mono ?_⟩
    rintro _ _ ⟨k, b2, k0, k1, rfl, rfl, hb2⟩
    simp -implicitDefEqProofs only [wp_bnd, wp_ret, wp_lift, wpV_some, wpV_none, wpV_ite, wpV_map, wp_stop, wp_ite, wp_mC, wp_mV, wp_mMove, wp_peek, wp_setS, wp_chk, wp_chg', wp_mCall, wp_mCallR, wp_sAug, wp_sAugI, wp_sSeq, wp_mComp, wp_run_nm, wp_run_ex, wp_get_nm, wp_get_ex, wp_mUn, wp_mBin, wp_runs_nil, wp_runs_cons, wp_gets_nil, wp_gets_cons, wp_mFn, wp_it_nil, wp_it_one, wp_it_star, wp_mTup, wp_mLst, wp_mT, wp_mNot, wp_mAnd, wp_mOr, wp_mBl, wp_asT, wp_mAndV, wp_mOrV, wp_mNotB, wp_mIf, wp_mYes, wp_itSeq, wp_itRng, wp_itEnum, wp_itZip, wp_lstRng, wp_tupRng, wp_part_none, wp_part_some, wp_mSl, wp_put_nm, wp_put_tup, wp_putAll_nil, wp_putAll_cons, wp_sNx, wp_sSet, wp_sPut, wp_temps_nil, wp_temps_cons, wp_setAll_nil, wp_setAll_cons, wp_sPar, wp_sDrop, wp_sRet, wp_sIf, wp_sFor, wp_sItem, wp_sApp, wp_sIns, wp_turn1, dat_fz, dat_ow, truth_int, truth_bool, truth_list, truth_tup, asBool_bool, intOf_int, seqOf_list, seqOf_tup, add_int, add_tup, add_list, sub_int, mul_int, mul_tup, mul_list, mod_int, fdiv_int, neg_int, lt_int, le_int, gt_int, ge_int, eq_int, ne_int, is_non, isnot_non, isNon, sl_list, sl_tup, len_list, len_tup, int_int, abs_int, max_2, max_3, min_2, min_3, tuple_list, tuple_tup, list_list, list_tup, app_D, ins_D, oIx_list, oIx_tup, getAt_0, getAt_1, getAt_2, getAt_3, putAt_0, putAt_1, putAt_2, ite_and, if_true, if_false, Bool.false_eq_true, ↓reduceIte, List.getElem?_cons_zero, List.getElem?_cons_succ, List.set_cons_zero, List.set_cons_succ, List.length_cons, List.length_nil, List.length_set, isOw_ow, isOw_fz, isOw_none, Nat.reduceAdd, Nat.reduceLT, Nat.reduceEqDiff, Nat.reduceSub, Int.reduceLT, Int.reduceLE, true_and, and_true, List.map_cons, List.map_nil, List.append_nil, List.nil_append, List.cons_append, List.replicate, wipeR, restore, noOw, List.all_cons, List.all_nil, Bool.not_false, Bool.not_true, Bool.and_true, Bool.and_self, szOk, Nat.reduceLeDiff, Option.getD_some, Option.getD_none, decide_eq_true_eq, Nat.zero_add, out0, List.length_map]
    refine ⟨rfl, (oneI hb2 (lo := 0) (hi := 100) (in_cons (by omega) (in_cons (by omega) (in_cons (by omega) in_nil))) (by simp) (by simp)).mono ?_⟩
    rintro _ _ ⟨z, b3, z0, z1, rfl, rfl, hb3⟩
    simp -implicitDefEqProofs only [wp_bnd, wp_ret, wp_lift, wpV_some, wpV_none, wpV_ite, wpV_map, wp_stop, wp_ite, wp_mC, wp_mV, wp_mMove, wp_peek, wp_setS, wp_chk, wp_chg', wp_mCall, wp_mCallR, wp_sAug, wp_sAugI, wp_sSeq, wp_mComp, wp_run_nm, wp_run_ex, wp_get_nm, wp_get_ex, wp_mUn, wp_mBin, wp_runs_nil, wp_runs_cons, wp_gets_nil, wp_gets_cons, wp_mFn, wp_it_nil, wp_it_one, wp_it_star, wp_mTup, wp_mLst, wp_mT, wp_mNot, wp_mAnd, wp_mOr, wp_mBl, wp_asT, wp_mAndV, wp_mOrV, wp_mNotB, wp_mIf, wp_mYes, wp_itSeq, wp_itRng, wp_itEnum, wp_itZip, wp_lstRng, wp_tupRng, wp_part_none, wp_part_some, wp_mSl, wp_put_nm, wp_put_tup, wp_putAll_nil, wp_putAll_cons, wp_sNx, wp_sSet, wp_sPut, wp_temps_nil, wp_temps_cons, wp_setAll_nil, wp_setAll_cons, wp_sPar, wp_sDrop, wp_sRet, wp_sIf, wp_sFor, wp_sItem, wp_sApp, wp_sIns, wp_turn1, dat_fz, dat_ow, truth_int, truth_bool, truth_list, truth_tup, asBool_bool, intOf_int, seqOf_list, seqOf_tup, add_int, add_tup, add_list, sub_int, mul_int, mul_tup, mul_list, mod_int, fdiv_int, neg_int, lt_int, le_int, gt_int, ge_int, eq_int, ne_int, is_non, isnot_non, isNon, sl_list, sl_tup, len_list, len_tup, int_int, abs_int, max_2, max_3, min_2, min_3, tuple_list, tuple_tup, list_list, list_tup, app_D, ins_D, oIx_list, oIx_tup, getAt_0, getAt_1, getAt_2, getAt_3, putAt_0, putAt_1, putAt_2, ite_and, if_true, if_false, Bool.false_eq_true, ↓reduceIte, List.getElem?_cons_zero, List.getElem?_cons_succ, List.set_cons_zero, List.set_cons_succ, List.length_cons, List.length_nil, List.length_set, isOw_ow, isOw_fz, isOw_none, Nat.reduceAdd, Nat.reduceLT, Nat.reduceEqDiff, Nat.reduceSub, Int.reduceLT, Int.reduceLE, true_and, and_true, List.map_cons, List.map_nil, List.append_nil, List.nil_append, List.cons_append, List.replicate, wipeR, restore, noOw, List.all_cons, List.all_nil, Bool.not_false, Bool.not_true, Bool.and_true, Bool.and_self, szOk, Nat.reduceLeDiff, Option.getD_some, Option.getD_none, decide_eq_true_eq, Nat.zero_add, out0, List.length_map, ls]
    refine ⟨ss ++ [min mi (s + z)], min mi (s + z), b3, _, by rw [List.length_append, List.length_append, e1]; rfl, upF_snoc e2 (by omega) (fun y hy => by have := e3 y hy; omega), fun y hy => ?_, by omega, by omega, by rw [List.append_assoc]; exact e6, hb3, by rw [ints_app, ints_one]⟩
    rcases List.mem_append.mp hy with hy | hy
    · have := e3 y hy; omega
    · rw [List.mem_singleton.mp hy]
      exact Int.le_refl _
  · obtain ⟨ss, s, b', x5, e1, e2, e3, e4, e5, e6, hb', rfl⟩ := h
    have el : ss.length = rs.length := by rw [e1, ← e6, List.append_nil]
    refine fin ss b' _ x5 ⟨fun e => ?_, e2, fun y hy => by have := e3 y hy; omega⟩ (by omega) hb'
    rw [e] at el
    exact h0 (List.eq_nil_of_length_eq_zero el.symm)
/-- the rows of one turn -/
theorem turn_loop {b : Bag} {m : Nat} {mi : Int} {rs ss : List Int} {O S x4 x5 x6 x8 x9 x10 x11 : Option Val} {Q : Fl → Rho → Prop} (hmi : mi = (m : Int)) (hb : b.cells.length ≤ 1000) (hm : m ≤ 100) (hs : Sz m ss) (hl : ss.length ≤ 100) (h9 : isOw (some x9) = false) (h10 : isOw (some x10) = false)
    (fin : ∀ (rows : List (List Int)) (b' : Bag) (x4 x8 : Option Val), rows.length = ss.length → Len m rows → b'.cells.length ≤ 1000 → Q .nx [some (.ow b'.d), some (.fz (.tuple [.int mi, tupI rs])), O, S, x4, x5, x6, some (.ow (rows.map tupI)), x8, x9, x10, x11]) :
    wp (forL (.nm 4) b2__law_tight_known (intsD ss)) [some (.ow b.d), some (.fz (.tuple [.int mi, tupI rs])), O, S, x4, x5, x6, some (.ow []), x8, x9, x10, x11] Q := by
  refine wp_forL (enc := PyData.int) (fun done rest ρ => ∃ rows, ∃ b' : Bag, ∃ x4 x8, rows.length = done.length ∧ Len m rows ∧ done ++ rest = ss ∧ b'.cells.length ≤ 1000 ∧
    ρ = [some (.ow b'.d), some (.fz (.tuple [.int mi, tupI rs])), O, S, x4, x5, x6, some (.ow (rows.map tupI)), x8, x9, x10, x11]) (fun done a rest ρ h => ?_) (fun done ρ h => ?_) ss [] _ ⟨[], b, x4, x8, rfl, (fun _ h => nomatch h), rfl, hb, rfl⟩
  · obtain ⟨rows, b', x4, x8, e1, e2, e3, hb', rfl⟩ := h
    have ha : a ∈ ss := by rw [← e3]; simp
    have ld : done.length < ss.length := by rw [← e3]; simp
    simp -implicitDefEqProofs only [wp_bnd, wp_ret, wp_lift, wpV_some, wpV_none, wpV_ite, wpV_map, wp_stop, wp_ite, wp_mC, wp_mV, wp_mMove, wp_peek, wp_setS, wp_chk, wp_chg', wp_mCall, wp_mCallR, wp_sAug, wp_sAugI, wp_sSeq, wp_mComp, wp_run_nm, wp_run_ex, wp_get_nm, wp_get_ex, wp_mUn, wp_mBin, wp_runs_nil, wp_runs_cons, wp_gets_nil, wp_gets_cons, wp_mFn, wp_it_nil, wp_it_one, wp_it_star, wp_mTup, wp_mLst, wp_mT, wp_mNot, wp_mAnd, wp_mOr, wp_mBl, wp_asT, wp_mAndV, wp_mOrV, wp_mNotB, wp_mIf, wp_mYes, wp_itSeq, wp_itRng, wp_itEnum, wp_itZip, wp_lstRng, wp_tupRng, wp_part_none, wp_part_some, wp_mSl, wp_put_nm, wp_put_tup, wp_putAll_nil, wp_putAll_cons, wp_sNx, wp_sSet, wp_sPut, wp_temps_nil, wp_temps_cons, wp_setAll_nil, wp_setAll_cons, wp_sPar, wp_sDrop, wp_sRet, wp_sIf, wp_sFor, wp_sItem, wp_sApp, wp_sIns, wp_turn1, dat_fz, dat_ow, truth_int, truth_bool, truth_list, truth_tup, asBool_bool, intOf_int, seqOf_list, seqOf_tup, add_int, add_tup, add_list, sub_int, mul_int, mul_tup, mul_list, mod_int, fdiv_int, neg_int, lt_int, le_int, gt_int, ge_int, eq_int, ne_int, is_non, isnot_non, isNon, sl_list, sl_tup, len_list, len_tup, int_int, abs_int, max_2, max_3, min_2, min_3, tuple_list, tuple_tup, list_list, list_tup, app_D, ins_D, oIx_list, oIx_tup, getAt_0, getAt_1, getAt_2, getAt_3, putAt_0, putAt_1, putAt_2, ite_and, if_true, if_false, Bool.false_eq_true, ↓reduceIte, List.getElem?_cons_zero, List.getElem?_cons_succ, List.set_cons_zero, List.set_cons_succ, List.length_cons, List.length_nil, List.length_set, isOw_ow, isOw_fz, isOw_none, Nat.reduceAdd, Nat.reduceLT, Nat.reduceEqDiff, Nat.reduceSub, Int.reduceLT, Int.reduceLE, true_and, and_true, List.map_cons, List.map_nil, List.append_nil, List.nil_append, List.cons_append, List.replicate, wipeR, restore, noOw, List.all_cons, List.all_nil, Bool.not_false, Bool.not_true, Bool.and_true, Bool.and_self, szOk, Nat.reduceLeDiff, Option.getD_some, Option.getD_none, decide_eq_true_eq, Nat.zero_add, out0, List.length_map]
    refine (b2_known hmi hb' hm ⟨upF_nn hs.up a ha, hs.le a ha⟩ (by omega) h9 h10).mono ?_
    rintro _ _ ⟨rfl, r, b2, x8, g1, hb2, rfl⟩
    refine ⟨rows ++ [r], b2, _, x8, by rw [List.length_append, List.length_append, e1]; rfl, fun w hw => ?_, by rw [List.append_assoc]; exact e3, hb2, rfl⟩
    rcases List.mem_append.mp hw with hw | hw
    · exact e2 w hw
    · rw [List.mem_singleton.mp hw]; exact g1
  · obtain ⟨rows, b', x4, x8, e1, e2, e3, hb', rfl⟩ := h
    exact fin rows b' x4 x8 (by rw [e1, ← e3, List.append_nil]) e2 hb'
theorem flat_rep {α : Type} (d : α) : ∀ n : Nat, (List.replicate n [d]).flatten = List.replicate n d
  | 0 => rfl
  | n + 1 => by
    rw [List.replicate_succ, List.flatten_cons, flat_rep d n]
    rfl
end K11

/-! K11t: a tight knowledge, whole; the law. -/
namespace K11
open PySem FK FW
/-- what a knowledge that was drawn is -/
def Good (m : Nat) (v : Val) : Prop := ∃ (os : List FK.D) (W : List (List Int)) (ss : List Int), v = .fz (.tuple [.tuple os, rowsD W]) ∧ os.length = m ∧ Tight m W ss ∧ ss.length ≤ 100
theorem b3_known {b : Bag} {m : Nat} {mi : Int} {rs ss : List Int} {os : List FK.D} {S : Val} {x4 x5 x6 x7 x8 x9 x10 x11 : Option Val} (hmi : mi = (m : Int)) (hb : b.cells.length ≤ 1000) (hm : m ≤ 100) (hs : Sz m ss) (hl : ss.length ≤ 100) (ho : os.length = m) (h9 : isOw (some x9) = false) (h10 : isOw (some x10) = false)
    (hS : S = .ow (intsD ss) ∨ S = .fz (lisI ss)) :
    wp b3__law_tight_known [some (.ow b.d), some (.fz (.tuple [.int mi, tupI rs])), some (.fz (.tuple os)), some S, x4, x5, x6, x7, x8, x9, x10, x11] fun f ρ =>
      (f = .nx ∧ ∃ b' : Bag, ∃ x4 x7 x8 x11, b'.cells.length ≤ 1000 ∧ ρ = [some (.ow b'.d), some (.fz (.tuple [.int mi, tupI rs])), some (.fz (.tuple os)), some (.fz (lisI ss)), x4, x5, x6, x7, x8, x9, x10, x11]) ∨
      (∃ v, f = .rt v ∧ Good m v ∧ ∃ b' : Bag, ∃ ρ', b'.cells.length ≤ 1000 ∧ ρ = some (.ow b'.d) :: ρ') := by
  have main : ∀ (x4 x11 : Option Val), wp (forL (.nm 4) b2__law_tight_known (intsD ss)) [some (.ow b.d), some (.fz (.tuple [.int mi, tupI rs])), some (.fz (.tuple os)), some (.fz (lisI ss)), x4, x5, x6, some (.ow []), x8, x9, x10, x11] fun f ρ => f = .nx ∧ ∃ rows, ∃ b' : Bag, ∃ x4 x8, rows.length = ss.length ∧ Len m rows ∧ b'.cells.length ≤ 1000 ∧
      ρ = [some (.ow b'.d), some (.fz (.tuple [.int mi, tupI rs])), some (.fz (.tuple os)), some (.fz (lisI ss)), x4, x5, x6, some (.ow (rows.map tupI)), x8, x9, x10, x11] := fun x4 x11 =>
    turn_loop hmi hb hm hs hl h9 h10 fun rows b' x4 x8 e1 e2 hb' => ⟨rfl, rows, b', x4, x8, e1, e2, hb', rfl⟩
  unfold b3__law_tight_known
  rcases hS with rfl | rfl
  all_goals
    simp -implicitDefEqProofs only [wp_bnd, wp_ret, wp_lift, wpV_some, wpV_none, wpV_ite, wpV_map, wp_stop, wp_ite, wp_mC, wp_mV, wp_mMove, wp_peek, wp_setS, wp_chk, wp_chg', wp_mCall, wp_mCallR, wp_sAug, wp_sAugI, wp_sSeq, wp_mComp, wp_run_nm, wp_run_ex, wp_get_nm, wp_get_ex, wp_mUn, wp_mBin, wp_runs_nil, wp_runs_cons, wp_gets_nil, wp_gets_cons, wp_mFn, wp_it_nil, wp_it_one, wp_it_star, wp_mTup, wp_mLst, wp_mT, wp_mNot, wp_mAnd, wp_mOr, wp_mBl, wp_asT, wp_mAndV, wp_mOrV, wp_mNotB, wp_mIf, wp_mYes, wp_itSeq, wp_itRng, wp_itEnum, wp_itZip, wp_lstRng, wp_tupRng, wp_part_none, wp_part_some, wp_mSl, wp_put_nm, wp_put_tup, wp_putAll_nil, wp_putAll_cons, wp_sNx, wp_sSet, wp_sPut, wp_temps_nil, wp_temps_cons, wp_setAll_nil, wp_setAll_cons, wp_sPar, wp_sDrop, wp_sRet, wp_sIf, wp_sFor, wp_sItem, wp_sApp, wp_sIns, wp_turn1, dat_fz, dat_ow, truth_int, truth_bool, truth_list, truth_tup, asBool_bool, intOf_int, seqOf_list, seqOf_tup, add_int, add_tup, add_list, sub_int, mul_int, mul_tup, mul_list, mod_int, fdiv_int, neg_int, lt_int, le_int, gt_int, ge_int, eq_int, ne_int, is_non, isnot_non, isNon, sl_list, sl_tup, len_list, len_tup, int_int, abs_int, max_2, max_3, min_2, min_3, tuple_list, tuple_tup, list_list, list_tup, app_D, ins_D, oIx_list, oIx_tup, getAt_0, getAt_1, getAt_2, getAt_3, putAt_0, putAt_1, putAt_2, ite_and, if_true, if_false, Bool.false_eq_true, ↓reduceIte, List.getElem?_cons_zero, List.getElem?_cons_succ, List.set_cons_zero, List.set_cons_succ, List.length_cons, List.length_nil, List.length_set, isOw_ow, isOw_fz, isOw_none, Nat.reduceAdd, Nat.reduceLT, Nat.reduceEqDiff, Nat.reduceSub, Int.reduceLT, Int.reduceLE, true_and, and_true, List.map_cons, List.map_nil, List.append_nil, List.nil_append, List.cons_append, List.replicate, wipeR, restore, noOw, List.all_cons, List.all_nil, Bool.not_false, Bool.not_true, Bool.and_true, Bool.and_self, szOk, Nat.reduceLeDiff, Option.getD_some, Option.getD_none, decide_eq_true_eq, Nat.zero_add, out0, List.length_map]
    refine (main _ _).mono ?_
    rintro _ _ ⟨rfl, rows, b', x4, x8, e1, e2, hb', rfl⟩
    simp -implicitDefEqProofs only [wp_bnd, wp_ret, wp_lift, wpV_some, wpV_none, wpV_ite, wpV_map, wp_stop, wp_ite, wp_mC, wp_mV, wp_mMove, wp_peek, wp_setS, wp_chk, wp_chg', wp_mCall, wp_mCallR, wp_sAug, wp_sAugI, wp_sSeq, wp_mComp, wp_run_nm, wp_run_ex, wp_get_nm, wp_get_ex, wp_mUn, wp_mBin, wp_runs_nil, wp_runs_cons, wp_gets_nil, wp_gets_cons, wp_mFn, wp_it_nil, wp_it_one, wp_it_star, wp_mTup, wp_mLst, wp_mT, wp_mNot, wp_mAnd, wp_mOr, wp_mBl, wp_asT, wp_mAndV, wp_mOrV, wp_mNotB, wp_mIf, wp_mYes, wp_itSeq, wp_itRng, wp_itEnum, wp_itZip, wp_lstRng, wp_tupRng, wp_part_none, wp_part_some, wp_mSl, wp_put_nm, wp_put_tup, wp_putAll_nil, wp_putAll_cons, wp_sNx, wp_sSet, wp_sPut, wp_temps_nil, wp_temps_cons, wp_setAll_nil, wp_setAll_cons, wp_sPar, wp_sDrop, wp_sRet, wp_sIf, wp_sFor, wp_sItem, wp_sApp, wp_sIns, wp_turn1, dat_fz, dat_ow, truth_int, truth_bool, truth_list, truth_tup, asBool_bool, intOf_int, seqOf_list, seqOf_tup, add_int, add_tup, add_list, sub_int, mul_int, mul_tup, mul_list, mod_int, fdiv_int, neg_int, lt_int, le_int, gt_int, ge_int, eq_int, ne_int, is_non, isnot_non, isNon, sl_list, sl_tup, len_list, len_tup, int_int, abs_int, max_2, max_3, min_2, min_3, tuple_list, tuple_tup, list_list, list_tup, app_D, ins_D, oIx_list, oIx_tup, getAt_0, getAt_1, getAt_2, getAt_3, putAt_0, putAt_1, putAt_2, ite_and, if_true, if_false, Bool.false_eq_true, ↓reduceIte, List.getElem?_cons_zero, List.getElem?_cons_succ, List.set_cons_zero, List.set_cons_succ, List.length_cons, List.length_nil, List.length_set, isOw_ow, isOw_fz, isOw_none, Nat.reduceAdd, Nat.reduceLT, Nat.reduceEqDiff, Nat.reduceSub, Int.reduceLT, Int.reduceLE, true_and, and_true, List.map_cons, List.map_nil, List.append_nil, List.nil_append, List.cons_append, List.replicate, wipeR, restore, noOw, List.all_cons, List.all_nil, Bool.not_false, Bool.not_true, Bool.and_true, Bool.and_self, szOk, Nat.reduceLeDiff, Option.getD_some, Option.getD_none, decide_eq_true_eq, Nat.zero_add, out0, List.length_map]
    have hr0 : rows ≠ [] := fun e => by
      rw [e] at e1
      exact hs.nil (List.eq_nil_of_length_eq_zero e1.symm)
    refine ⟨rfl, (lawT_ok rows ss m hr0 e1 (by omega) (by omega) e2).mono ?_⟩
    intro v o hv
    rw [hv, noneOr_eq]
    cases ht : tightP rows ss with
    | none =>
      simp -implicitDefEqProofs only [wp_bnd, wp_ret, wp_lift, wpV_some, wpV_none, wpV_ite, wpV_map, wp_stop, wp_ite, wp_mC, wp_mV, wp_mMove, wp_peek, wp_setS, wp_chk, wp_chg', wp_mCall, wp_mCallR, wp_sAug, wp_sAugI, wp_sSeq, wp_mComp, wp_run_nm, wp_run_ex, wp_get_nm, wp_get_ex, wp_mUn, wp_mBin, wp_runs_nil, wp_runs_cons, wp_gets_nil, wp_gets_cons, wp_mFn, wp_it_nil, wp_it_one, wp_it_star, wp_mTup, wp_mLst, wp_mT, wp_mNot, wp_mAnd, wp_mOr, wp_mBl, wp_asT, wp_mAndV, wp_mOrV, wp_mNotB, wp_mIf, wp_mYes, wp_itSeq, wp_itRng, wp_itEnum, wp_itZip, wp_lstRng, wp_tupRng, wp_part_none, wp_part_some, wp_mSl, wp_put_nm, wp_put_tup, wp_putAll_nil, wp_putAll_cons, wp_sNx, wp_sSet, wp_sPut, wp_temps_nil, wp_temps_cons, wp_setAll_nil, wp_setAll_cons, wp_sPar, wp_sDrop, wp_sRet, wp_sIf, wp_sFor, wp_sItem, wp_sApp, wp_sIns, wp_turn1, dat_fz, dat_ow, truth_int, truth_bool, truth_list, truth_tup, asBool_bool, intOf_int, seqOf_list, seqOf_tup, add_int, add_tup, add_list, sub_int, mul_int, mul_tup, mul_list, mod_int, fdiv_int, neg_int, lt_int, le_int, gt_int, ge_int, eq_int, ne_int, is_non, isnot_non, isNon, sl_list, sl_tup, len_list, len_tup, int_int, abs_int, max_2, max_3, min_2, min_3, tuple_list, tuple_tup, list_list, list_tup, app_D, ins_D, oIx_list, oIx_tup, getAt_0, getAt_1, getAt_2, getAt_3, putAt_0, putAt_1, putAt_2, ite_and, if_true, if_false, Bool.false_eq_true, ↓reduceIte, List.getElem?_cons_zero, List.getElem?_cons_succ, List.set_cons_zero, List.set_cons_succ, List.length_cons, List.length_nil, List.length_set, isOw_ow, isOw_fz, isOw_none, Nat.reduceAdd, Nat.reduceLT, Nat.reduceEqDiff, Nat.reduceSub, Int.reduceLT, Int.reduceLE, true_and, and_true, List.map_cons, List.map_nil, List.append_nil, List.nil_append, List.cons_append, List.replicate, wipeR, restore, noOw, List.all_cons, List.all_nil, Bool.not_false, Bool.not_true, Bool.and_true, Bool.and_self, szOk, Nat.reduceLeDiff, Option.getD_some, Option.getD_none, decide_eq_true_eq, Nat.zero_add, out0, List.length_map, dOr]
      exact .inl ⟨b', _, _, _, _, hb', rfl⟩
    | some W =>
      have t := tight_of e1 e2 ht
      simp -implicitDefEqProofs only [wp_bnd, wp_ret, wp_lift, wpV_some, wpV_none, wpV_ite, wpV_map, wp_stop, wp_ite, wp_mC, wp_mV, wp_mMove, wp_peek, wp_setS, wp_chk, wp_chg', wp_mCall, wp_mCallR, wp_sAug, wp_sAugI, wp_sSeq, wp_mComp, wp_run_nm, wp_run_ex, wp_get_nm, wp_get_ex, wp_mUn, wp_mBin, wp_runs_nil, wp_runs_cons, wp_gets_nil, wp_gets_cons, wp_mFn, wp_it_nil, wp_it_one, wp_it_star, wp_mTup, wp_mLst, wp_mT, wp_mNot, wp_mAnd, wp_mOr, wp_mBl, wp_asT, wp_mAndV, wp_mOrV, wp_mNotB, wp_mIf, wp_mYes, wp_itSeq, wp_itRng, wp_itEnum, wp_itZip, wp_lstRng, wp_tupRng, wp_part_none, wp_part_some, wp_mSl, wp_put_nm, wp_put_tup, wp_putAll_nil, wp_putAll_cons, wp_sNx, wp_sSet, wp_sPut, wp_temps_nil, wp_temps_cons, wp_setAll_nil, wp_setAll_cons, wp_sPar, wp_sDrop, wp_sRet, wp_sIf, wp_sFor, wp_sItem, wp_sApp, wp_sIns, wp_turn1, dat_fz, dat_ow, truth_int, truth_bool, truth_list, truth_tup, asBool_bool, intOf_int, seqOf_list, seqOf_tup, add_int, add_tup, add_list, sub_int, mul_int, mul_tup, mul_list, mod_int, fdiv_int, neg_int, lt_int, le_int, gt_int, ge_int, eq_int, ne_int, is_non, isnot_non, isNon, sl_list, sl_tup, len_list, len_tup, int_int, abs_int, max_2, max_3, min_2, min_3, tuple_list, tuple_tup, list_list, list_tup, app_D, ins_D, oIx_list, oIx_tup, getAt_0, getAt_1, getAt_2, getAt_3, putAt_0, putAt_1, putAt_2, ite_and, if_true, if_false, Bool.false_eq_true, ↓reduceIte, List.getElem?_cons_zero, List.getElem?_cons_succ, List.set_cons_zero, List.set_cons_succ, List.length_cons, List.length_nil, List.length_set, isOw_ow, isOw_fz, isOw_none, Nat.reduceAdd, Nat.reduceLT, Nat.reduceEqDiff, Nat.reduceSub, Int.reduceLT, Int.reduceLE, true_and, and_true, List.map_cons, List.map_nil, List.append_nil, List.nil_append, List.cons_append, List.replicate, wipeR, restore, noOw, List.all_cons, List.all_nil, Bool.not_false, Bool.not_true, Bool.and_true, Bool.and_self, szOk, Nat.reduceLeDiff, Option.getD_some, Option.getD_none, decide_eq_true_eq, Nat.zero_add, out0, List.length_map, dOr]
      exact .inr ⟨_, rfl, ⟨os, W, ss, rfl, ho, t, hl⟩, b', _, hb', rfl⟩
theorem tight_known_ok {b : Bag} {m : Nat} {mi : Int} {rs : List Int} (hmi : mi = (m : Int)) (hb : b.cells.length ≤ 1000) (hm : m ≤ 100) (h0 : rs ≠ []) (hl : rs.length ≤ 100) (hr : ∀ x ∈ rs, 1 ≤ x ∧ x ≤ 100) :
    wpF (e__law_tight_known.f [.ow b.d, .fz (.tuple [.int mi, tupI rs])]) fun v o => Good m v ∧ ∃ b' : Bag, o = some b'.d ∧ b'.cells.length ≤ 1000 := by
  have hrng : rngOf [.int mi] = some ((List.range m).map fun (k : Nat) => PyData.int (k : Int)) := by rw [hmi]; exact rng_one (by omega)
  have three : rngOf [.int 3] = _ := rng_one (n := 3) (by omega)
  show wpF (fnOf 12 m__law_tight_known _) _
  rw [wpF_fnOf]
  unfold m__law_tight_known
  simp -implicitDefEqProofs only [wp_bnd, wp_ret, wp_lift, wpV_some, wpV_none, wpV_ite, wpV_map, wp_stop, wp_ite, wp_mC, wp_mV, wp_mMove, wp_peek, wp_setS, wp_chk, wp_chg', wp_mCall, wp_mCallR, wp_sAug, wp_sAugI, wp_sSeq, wp_mComp, wp_run_nm, wp_run_ex, wp_get_nm, wp_get_ex, wp_mUn, wp_mBin, wp_runs_nil, wp_runs_cons, wp_gets_nil, wp_gets_cons, wp_mFn, wp_it_nil, wp_it_one, wp_it_star, wp_mTup, wp_mLst, wp_mT, wp_mNot, wp_mAnd, wp_mOr, wp_mBl, wp_asT, wp_mAndV, wp_mOrV, wp_mNotB, wp_mIf, wp_mYes, wp_itSeq, wp_itRng, wp_itEnum, wp_itZip, wp_lstRng, wp_tupRng, wp_part_none, wp_part_some, wp_mSl, wp_put_nm, wp_put_tup, wp_putAll_nil, wp_putAll_cons, wp_sNx, wp_sSet, wp_sPut, wp_temps_nil, wp_temps_cons, wp_setAll_nil, wp_setAll_cons, wp_sPar, wp_sDrop, wp_sRet, wp_sIf, wp_sFor, wp_sItem, wp_sApp, wp_sIns, wp_turn1, dat_fz, dat_ow, truth_int, truth_bool, truth_list, truth_tup, asBool_bool, intOf_int, seqOf_list, seqOf_tup, add_int, add_tup, add_list, sub_int, mul_int, mul_tup, mul_list, mod_int, fdiv_int, neg_int, lt_int, le_int, gt_int, ge_int, eq_int, ne_int, is_non, isnot_non, isNon, sl_list, sl_tup, len_list, len_tup, int_int, abs_int, max_2, max_3, min_2, min_3, tuple_list, tuple_tup, list_list, list_tup, app_D, ins_D, oIx_list, oIx_tup, getAt_0, getAt_1, getAt_2, getAt_3, putAt_0, putAt_1, putAt_2, ite_and, if_true, if_false, Bool.false_eq_true, ↓reduceIte, List.getElem?_cons_zero, List.getElem?_cons_succ, List.set_cons_zero, List.set_cons_succ, List.length_cons, List.length_nil, List.length_set, isOw_ow, isOw_fz, isOw_none, Nat.reduceAdd, Nat.reduceLT, Nat.reduceEqDiff, Nat.reduceSub, Int.reduceLT, Int.reduceLE, true_and, and_true, List.map_cons, List.map_nil, List.append_nil, List.nil_append, List.cons_append, List.replicate, wipeR, restore, noOw, List.all_cons, List.all_nil, Bool.not_false, Bool.not_true, Bool.and_true, Bool.and_self, szOk, Nat.reduceLeDiff, Option.getD_some, Option.getD_none, decide_eq_true_eq, Nat.zero_add, out0, List.length_map, hrng]
  refine ⟨rfl, (mixed_ok hb (xs := (List.range m).map fun (k : Nat) => PyData.int (k : Int)) (by rw [List.length_map, List.length_range]; omega)).mono ?_⟩
  rintro _ _ ⟨os, b1, rfl, ho, rfl, hb1⟩
  rw [List.length_map, List.length_range] at ho
  simp -implicitDefEqProofs only [wp_bnd, wp_ret, wp_lift, wpV_some, wpV_none, wpV_ite, wpV_map, wp_stop, wp_ite, wp_mC, wp_mV, wp_mMove, wp_peek, wp_setS, wp_chk, wp_chg', wp_mCall, wp_mCallR, wp_sAug, wp_sAugI, wp_sSeq, wp_mComp, wp_run_nm, wp_run_ex, wp_get_nm, wp_get_ex, wp_mUn, wp_mBin, wp_runs_nil, wp_runs_cons, wp_gets_nil, wp_gets_cons, wp_mFn, wp_it_nil, wp_it_one, wp_it_star, wp_mTup, wp_mLst, wp_mT, wp_mNot, wp_mAnd, wp_mOr, wp_mBl, wp_asT, wp_mAndV, wp_mOrV, wp_mNotB, wp_mIf, wp_mYes, wp_itSeq, wp_itRng, wp_itEnum, wp_itZip, wp_lstRng, wp_tupRng, wp_part_none, wp_part_some, wp_mSl, wp_put_nm, wp_put_tup, wp_putAll_nil, wp_putAll_cons, wp_sNx, wp_sSet, wp_sPut, wp_temps_nil, wp_temps_cons, wp_setAll_nil, wp_setAll_cons, wp_sPar, wp_sDrop, wp_sRet, wp_sIf, wp_sFor, wp_sItem, wp_sApp, wp_sIns, wp_turn1, dat_fz, dat_ow, truth_int, truth_bool, truth_list, truth_tup, asBool_bool, intOf_int, seqOf_list, seqOf_tup, add_int, add_tup, add_list, sub_int, mul_int, mul_tup, mul_list, mod_int, fdiv_int, neg_int, lt_int, le_int, gt_int, ge_int, eq_int, ne_int, is_non, isnot_non, isNon, sl_list, sl_tup, len_list, len_tup, int_int, abs_int, max_2, max_3, min_2, min_3, tuple_list, tuple_tup, list_list, list_tup, app_D, ins_D, oIx_list, oIx_tup, getAt_0, getAt_1, getAt_2, getAt_3, putAt_0, putAt_1, putAt_2, ite_and, if_true, if_false, Bool.false_eq_true, ↓reduceIte, List.getElem?_cons_zero, List.getElem?_cons_succ, List.set_cons_zero, List.set_cons_succ, List.length_cons, List.length_nil, List.length_set, isOw_ow, isOw_fz, isOw_none, Nat.reduceAdd, Nat.reduceLT, Nat.reduceEqDiff, Nat.reduceSub, Int.reduceLT, Int.reduceLE, true_and, and_true, List.map_cons, List.map_nil, List.append_nil, List.nil_append, List.cons_append, List.replicate, wipeR, restore, noOw, List.all_cons, List.all_nil, Bool.not_false, Bool.not_true, Bool.and_true, Bool.and_self, szOk, Nat.reduceLeDiff, Option.getD_some, Option.getD_none, decide_eq_true_eq, Nat.zero_add, out0, List.length_map]
  refine sizes_loop hmi hb1 hm h0 hl hr fun ss b2 x4 x5 hs hls hb2 => ?_
  simp -implicitDefEqProofs only [wp_bnd, wp_ret, wp_lift, wpV_some, wpV_none, wpV_ite, wpV_map, wp_stop, wp_ite, wp_mC, wp_mV, wp_mMove, wp_peek, wp_setS, wp_chk, wp_chg', wp_mCall, wp_mCallR, wp_sAug, wp_sAugI, wp_sSeq, wp_mComp, wp_run_nm, wp_run_ex, wp_get_nm, wp_get_ex, wp_mUn, wp_mBin, wp_runs_nil, wp_runs_cons, wp_gets_nil, wp_gets_cons, wp_mFn, wp_it_nil, wp_it_one, wp_it_star, wp_mTup, wp_mLst, wp_mT, wp_mNot, wp_mAnd, wp_mOr, wp_mBl, wp_asT, wp_mAndV, wp_mOrV, wp_mNotB, wp_mIf, wp_mYes, wp_itSeq, wp_itRng, wp_itEnum, wp_itZip, wp_lstRng, wp_tupRng, wp_part_none, wp_part_some, wp_mSl, wp_put_nm, wp_put_tup, wp_putAll_nil, wp_putAll_cons, wp_sNx, wp_sSet, wp_sPut, wp_temps_nil, wp_temps_cons, wp_setAll_nil, wp_setAll_cons, wp_sPar, wp_sDrop, wp_sRet, wp_sIf, wp_sFor, wp_sItem, wp_sApp, wp_sIns, wp_turn1, dat_fz, dat_ow, truth_int, truth_bool, truth_list, truth_tup, asBool_bool, intOf_int, seqOf_list, seqOf_tup, add_int, add_tup, add_list, sub_int, mul_int, mul_tup, mul_list, mod_int, fdiv_int, neg_int, lt_int, le_int, gt_int, ge_int, eq_int, ne_int, is_non, isnot_non, isNon, sl_list, sl_tup, len_list, len_tup, int_int, abs_int, max_2, max_3, min_2, min_3, tuple_list, tuple_tup, list_list, list_tup, app_D, ins_D, oIx_list, oIx_tup, getAt_0, getAt_1, getAt_2, getAt_3, putAt_0, putAt_1, putAt_2, ite_and, if_true, if_false, Bool.false_eq_true, ↓reduceIte, List.getElem?_cons_zero, List.getElem?_cons_succ, List.set_cons_zero, List.set_cons_succ, List.length_cons, List.length_nil, List.length_set, isOw_ow, isOw_fz, isOw_none, Nat.reduceAdd, Nat.reduceLT, Nat.reduceEqDiff, Nat.reduceSub, Int.reduceLT, Int.reduceLE, true_and, and_true, List.map_cons, List.map_nil, List.append_nil, List.nil_append, List.cons_append, List.replicate, wipeR, restore, noOw, List.all_cons, List.all_nil, Bool.not_false, Bool.not_true, Bool.and_true, Bool.and_self, szOk, Nat.reduceLeDiff, Option.getD_some, Option.getD_none, decide_eq_true_eq, Nat.zero_add, out0, List.length_map, three]
  refine wp_up (fun j ρ => ∃ S, ∃ b' : Bag, ∃ x4 x6 x7 x8 x11, (S = Val.ow (intsD ss) ∨ S = Val.fz (lisI ss)) ∧ b'.cells.length ≤ 1000 ∧
    ρ = [some (.ow b'.d), some (.fz (.tuple [.int mi, tupI rs])), some (.fz (.tuple os)), some S, x4, x5, x6, x7, x8, none, none, x11]) (fun j ρ hj h => ?_) (fun ρ h => ?_) ⟨_, b2, _, none, none, none, none, .inl rfl, hb2, rfl⟩
  · obtain ⟨S, b', x4, x6, x7, x8, x11, hS, hb', rfl⟩ := h
    simp -implicitDefEqProofs only [wp_bnd, wp_ret, wp_lift, wpV_some, wpV_none, wpV_ite, wpV_map, wp_stop, wp_ite, wp_mC, wp_mV, wp_mMove, wp_peek, wp_setS, wp_chk, wp_chg', wp_mCall, wp_mCallR, wp_sAug, wp_sAugI, wp_sSeq, wp_mComp, wp_run_nm, wp_run_ex, wp_get_nm, wp_get_ex, wp_mUn, wp_mBin, wp_runs_nil, wp_runs_cons, wp_gets_nil, wp_gets_cons, wp_mFn, wp_it_nil, wp_it_one, wp_it_star, wp_mTup, wp_mLst, wp_mT, wp_mNot, wp_mAnd, wp_mOr, wp_mBl, wp_asT, wp_mAndV, wp_mOrV, wp_mNotB, wp_mIf, wp_mYes, wp_itSeq, wp_itRng, wp_itEnum, wp_itZip, wp_lstRng, wp_tupRng, wp_part_none, wp_part_some, wp_mSl, wp_put_nm, wp_put_tup, wp_putAll_nil, wp_putAll_cons, wp_sNx, wp_sSet, wp_sPut, wp_temps_nil, wp_temps_cons, wp_setAll_nil, wp_setAll_cons, wp_sPar, wp_sDrop, wp_sRet, wp_sIf, wp_sFor, wp_sItem, wp_sApp, wp_sIns, wp_turn1, dat_fz, dat_ow, truth_int, truth_bool, truth_list, truth_tup, asBool_bool, intOf_int, seqOf_list, seqOf_tup, add_int, add_tup, add_list, sub_int, mul_int, mul_tup, mul_list, mod_int, fdiv_int, neg_int, lt_int, le_int, gt_int, ge_int, eq_int, ne_int, is_non, isnot_non, isNon, sl_list, sl_tup, len_list, len_tup, int_int, abs_int, max_2, max_3, min_2, min_3, tuple_list, tuple_tup, list_list, list_tup, app_D, ins_D, oIx_list, oIx_tup, getAt_0, getAt_1, getAt_2, getAt_3, putAt_0, putAt_1, putAt_2, ite_and, if_true, if_false, Bool.false_eq_true, ↓reduceIte, List.getElem?_cons_zero, List.getElem?_cons_succ, List.set_cons_zero, List.set_cons_succ, List.length_cons, List.length_nil, List.length_set, isOw_ow, isOw_fz, isOw_none, Nat.reduceAdd, Nat.reduceLT, Nat.reduceEqDiff, Nat.reduceSub, Int.reduceLT, Int.reduceLE, true_and, and_true, List.map_cons, List.map_nil, List.append_nil, List.nil_append, List.cons_append, List.replicate, wipeR, restore, noOw, List.all_cons, List.all_nil, Bool.not_false, Bool.not_true, Bool.and_true, Bool.and_self, szOk, Nat.reduceLeDiff, Option.getD_some, Option.getD_none, decide_eq_true_eq, Nat.zero_add, out0, List.length_map]
    refine (b3_known hmi hb' hm hs hls ho rfl rfl hS).mono ?_
    rintro f ρ (⟨rfl, b3, x4, x7, x8, x11, hb3, rfl⟩ | ⟨v, rfl, hg, b3, ρ', hb3, rfl⟩)
    · exact ⟨_, b3, _, _, _, _, _, .inr rfl, hb3, rfl⟩
    · exact ⟨hg, b3, rfl, hb3⟩
  · obtain ⟨S, b', x4, x6, x7, x8, x11, hS, hb', rfl⟩ := h
    have hz := zeros_some (m := m) hs.nil hs.up hs.le
    have em : (mi + 1).toNat = m + 1 := by omega
    have c1 : 1 ≤ mi + 1 ∧ mi + 1 ≤ 1000 := by omega
    have lss := List.length_pos_iff.mpr hs.nil
    have c2 : 1 ≤ (ss.length : Int) ∧ (ss.length : Int) ≤ 1000 := by omega
    have ez : PyData.tuple (List.replicate ss.length (PyData.tuple ([PyData.int 0] :: List.replicate m [PyData.int 0]).flatten)) = rowsD (List.replicate ss.length (zerosP m)) := by
      have e1 : ([PyData.int 0] :: List.replicate m [PyData.int 0]).flatten = intsD (zerosP m) := by
        show (List.replicate (m + 1) [PyData.int 0]).flatten = _
        rw [flat_rep, intsD, List.map_replicate]
      rw [e1]
      show PyData.tuple _ = PyData.tuple (List.map tupI _)
      rw [List.map_replicate]
    have fin : wpF (e__law_tightened.f [.fz (rowsD (List.replicate ss.length (zerosP m))), .fz (tupI ss)]) fun v _ => ∃ W, v = .fz (rowsD W) ∧ Tight m W ss := by
      have hL : Len m (List.replicate ss.length (zerosP m)) := fun w hw => by
        rw [List.eq_of_mem_replicate hw, List.length_replicate]
      refine (lawT_ok _ ss m (by intro e; have := congrArg List.length e; rw [List.length_replicate] at this; simp only [List.length_nil] at this; omega) (by rw [List.length_replicate]) (by rw [List.length_replicate]; omega) (by omega) hL).mono ?_
      intro v o hv
      obtain ⟨W, hW⟩ := hz
      exact ⟨W, by rw [hv, hW]; rfl, tight_of (by rw [List.length_replicate]) hL hW⟩
    rcases hS with rfl | rfl
    all_goals
      simp -implicitDefEqProofs only [wp_bnd, wp_ret, wp_lift, wpV_some, wpV_none, wpV_ite, wpV_map, wp_stop, wp_ite, wp_mC, wp_mV, wp_mMove, wp_peek, wp_setS, wp_chk, wp_chg', wp_mCall, wp_mCallR, wp_sAug, wp_sAugI, wp_sSeq, wp_mComp, wp_run_nm, wp_run_ex, wp_get_nm, wp_get_ex, wp_mUn, wp_mBin, wp_runs_nil, wp_runs_cons, wp_gets_nil, wp_gets_cons, wp_mFn, wp_it_nil, wp_it_one, wp_it_star, wp_mTup, wp_mLst, wp_mT, wp_mNot, wp_mAnd, wp_mOr, wp_mBl, wp_asT, wp_mAndV, wp_mOrV, wp_mNotB, wp_mIf, wp_mYes, wp_itSeq, wp_itRng, wp_itEnum, wp_itZip, wp_lstRng, wp_tupRng, wp_part_none, wp_part_some, wp_mSl, wp_put_nm, wp_put_tup, wp_putAll_nil, wp_putAll_cons, wp_sNx, wp_sSet, wp_sPut, wp_temps_nil, wp_temps_cons, wp_setAll_nil, wp_setAll_cons, wp_sPar, wp_sDrop, wp_sRet, wp_sIf, wp_sFor, wp_sItem, wp_sApp, wp_sIns, wp_turn1, dat_fz, dat_ow, truth_int, truth_bool, truth_list, truth_tup, asBool_bool, intOf_int, seqOf_list, seqOf_tup, add_int, add_tup, add_list, sub_int, mul_int, mul_tup, mul_list, mod_int, fdiv_int, neg_int, lt_int, le_int, gt_int, ge_int, eq_int, ne_int, is_non, isnot_non, isNon, sl_list, sl_tup, len_list, len_tup, int_int, abs_int, max_2, max_3, min_2, min_3, tuple_list, tuple_tup, list_list, list_tup, app_D, ins_D, oIx_list, oIx_tup, getAt_0, getAt_1, getAt_2, getAt_3, putAt_0, putAt_1, putAt_2, ite_and, if_true, if_false, Bool.false_eq_true, ↓reduceIte, List.getElem?_cons_zero, List.getElem?_cons_succ, List.set_cons_zero, List.set_cons_succ, List.length_cons, List.length_nil, List.length_set, isOw_ow, isOw_fz, isOw_none, Nat.reduceAdd, Nat.reduceLT, Nat.reduceEqDiff, Nat.reduceSub, Int.reduceLT, Int.reduceLE, true_and, and_true, List.map_cons, List.map_nil, List.append_nil, List.nil_append, List.cons_append, List.replicate, wipeR, restore, noOw, List.all_cons, List.all_nil, Bool.not_false, Bool.not_true, Bool.and_true, Bool.and_self, szOk, Nat.reduceLeDiff, Option.getD_some, Option.getD_none, decide_eq_true_eq, Nat.zero_add, out0, List.length_map, mul_tup, c1.1, c1.2, c2.1, c2.2, em, flat_rep, Int.toNat_natCast]
      refine ⟨rfl, ?_⟩
      rw [ez]
      refine fin.mono ?_
      rintro v o ⟨W, rfl, t⟩
      simp -implicitDefEqProofs only [wp_bnd, wp_ret, wp_lift, wpV_some, wpV_none, wpV_ite, wpV_map, wp_stop, wp_ite, wp_mC, wp_mV, wp_mMove, wp_peek, wp_setS, wp_chk, wp_chg', wp_mCall, wp_mCallR, wp_sAug, wp_sAugI, wp_sSeq, wp_mComp, wp_run_nm, wp_run_ex, wp_get_nm, wp_get_ex, wp_mUn, wp_mBin, wp_runs_nil, wp_runs_cons, wp_gets_nil, wp_gets_cons, wp_mFn, wp_it_nil, wp_it_one, wp_it_star, wp_mTup, wp_mLst, wp_mT, wp_mNot, wp_mAnd, wp_mOr, wp_mBl, wp_asT, wp_mAndV, wp_mOrV, wp_mNotB, wp_mIf, wp_mYes, wp_itSeq, wp_itRng, wp_itEnum, wp_itZip, wp_lstRng, wp_tupRng, wp_part_none, wp_part_some, wp_mSl, wp_put_nm, wp_put_tup, wp_putAll_nil, wp_putAll_cons, wp_sNx, wp_sSet, wp_sPut, wp_temps_nil, wp_temps_cons, wp_setAll_nil, wp_setAll_cons, wp_sPar, wp_sDrop, wp_sRet, wp_sIf, wp_sFor, wp_sItem, wp_sApp, wp_sIns, wp_turn1, dat_fz, dat_ow, truth_int, truth_bool, truth_list, truth_tup, asBool_bool, intOf_int, seqOf_list, seqOf_tup, add_int, add_tup, add_list, sub_int, mul_int, mul_tup, mul_list, mod_int, fdiv_int, neg_int, lt_int, le_int, gt_int, ge_int, eq_int, ne_int, is_non, isnot_non, isNon, sl_list, sl_tup, len_list, len_tup, int_int, abs_int, max_2, max_3, min_2, min_3, tuple_list, tuple_tup, list_list, list_tup, app_D, ins_D, oIx_list, oIx_tup, getAt_0, getAt_1, getAt_2, getAt_3, putAt_0, putAt_1, putAt_2, ite_and, if_true, if_false, Bool.false_eq_true, ↓reduceIte, List.getElem?_cons_zero, List.getElem?_cons_succ, List.set_cons_zero, List.set_cons_succ, List.length_cons, List.length_nil, List.length_set, isOw_ow, isOw_fz, isOw_none, Nat.reduceAdd, Nat.reduceLT, Nat.reduceEqDiff, Nat.reduceSub, Int.reduceLT, Int.reduceLE, true_and, and_true, List.map_cons, List.map_nil, List.append_nil, List.nil_append, List.cons_append, List.replicate, wipeR, restore, noOw, List.all_cons, List.all_nil, Bool.not_false, Bool.not_true, Bool.and_true, Bool.and_self, szOk, Nat.reduceLeDiff, Option.getD_some, Option.getD_none, decide_eq_true_eq, Nat.zero_add, out0, List.length_map]
      exact ⟨⟨os, W, ss, rfl, ho, t, hls⟩, b', rfl, hb'⟩
end K11

/-! K11u: the law is true. -/
namespace K11
open PySem FK FW
theorem lastD_mem {w : List Int} (h : w ≠ []) : w.getLastD 0 ∈ w := by
  rw [List.getLastD_eq_getLast?, List.getLast?_eq_getLast h]
  exact List.getLast_mem h
theorem good_facts {m : Nat} {W : List (List Int)} {ss : List Int} (hm : m ≤ 100) (t : Tight m W ss) (hl : ss.length ≤ 100) :
    (∀ w ∈ W, w ≠ []) ∧ Len m W ∧ (∀ w ∈ W, Small w) ∧ Small (lastsP W) ∧ (lastsP W).length = W.length ∧ W.length ≤ 100 ∧ nestB m W = nestL m W ∧ RP 90000 3 (.list [tupI (lastsP W), .bool (nestB m W)]) := by
  have hne : ∀ w ∈ W, w ≠ [] := fun w hw e => by
    have := (t.all w hw).1
    rw [e] at this
    cases this
  have hS : ∀ w ∈ W, Small w := fun w hw x hx => by
    have := t.top w hw x hx
    have := nn_mem (t.all w hw).2.2 hx
    omega
  have hlast : Small (lastsP W) := fun x hx => by
    obtain ⟨w, hw, rfl⟩ := List.mem_map.mp hx
    exact hS w hw _ (lastD_mem (hne w hw))
  have hlen : (lastsP W).length = W.length := List.length_map _
  have hWl : W.length ≤ 100 := by rw [t.len]; exact hl
  exact ⟨hne, fun w hw => (t.all w hw).1, hS, hlast, hlen, hWl, nest_eq fun w hw => ⟨(t.all w hw).1, (t.all w hw).2.1⟩,
    (rp_pair (w := 5000) (k := 2) ((rp_ints (n := 100) hlast (by omega)).mono (by omega) (by omega)) (rp_bool.mono (by omega) (by omega))).mono (by omega) (by omega)⟩
theorem turn_law {b : Bag} {S x2 x3 x4 x5 x6 x7 : Option Val} (hb : b.cells.length ≤ 1000) :
    wp b1_law [S, some (.ow b.d), x2, x3, x4, x5, x6, x7] fun f ρ => f = .nx ∧ ∃ b' : Bag, ∃ x3 x4 x5 x6 x7, b'.cells.length ≤ 1000 ∧ ρ = [S, some (.ow b'.d), x2, x3, x4, x5, x6, x7] := by
  unfold b1_law
  simp -implicitDefEqProofs only [wp_bnd, wp_ret, wp_lift, wpV_some, wpV_none, wpV_ite, wpV_map, wp_stop, wp_ite, wp_mC, wp_mV, wp_mMove, wp_peek, wp_setS, wp_chk, wp_chg', wp_mCall, wp_mCallR, wp_sAug, wp_sAugI, wp_sSeq, wp_mComp, wp_run_nm, wp_run_ex, wp_get_nm, wp_get_ex, wp_mUn, wp_mBin, wp_runs_nil, wp_runs_cons, wp_gets_nil, wp_gets_cons, wp_mFn, wp_it_nil, wp_it_one, wp_it_star, wp_mTup, wp_mLst, wp_mT, wp_mNot, wp_mAnd, wp_mOr, wp_mBl, wp_asT, wp_mAndV, wp_mOrV, wp_mNotB, wp_mIf, wp_mYes, wp_itSeq, wp_itRng, wp_itEnum, wp_itZip, wp_lstRng, wp_tupRng, wp_part_none, wp_part_some, wp_mSl, wp_put_nm, wp_put_tup, wp_putAll_nil, wp_putAll_cons, wp_sNx, wp_sSet, wp_sPut, wp_temps_nil, wp_temps_cons, wp_setAll_nil, wp_setAll_cons, wp_sPar, wp_sDrop, wp_sRet, wp_sIf, wp_sFor, wp_sItem, wp_sApp, wp_sIns, wp_turn1, dat_fz, dat_ow, truth_int, truth_bool, truth_list, truth_tup, asBool_bool, intOf_int, seqOf_list, seqOf_tup, add_int, add_tup, add_list, sub_int, mul_int, mul_tup, mul_list, mod_int, fdiv_int, neg_int, lt_int, le_int, gt_int, ge_int, eq_int, ne_int, is_non, isnot_non, isNon, sl_list, sl_tup, len_list, len_tup, int_int, abs_int, max_2, max_3, min_2, min_3, tuple_list, tuple_tup, list_list, list_tup, app_D, ins_D, oIx_list, oIx_tup, getAt_0, getAt_1, getAt_2, getAt_3, putAt_0, putAt_1, putAt_2, ite_and, if_true, if_false, Bool.false_eq_true, ↓reduceIte, List.getElem?_cons_zero, List.getElem?_cons_succ, List.set_cons_zero, List.set_cons_succ, List.length_cons, List.length_nil, List.length_set, isOw_ow, isOw_fz, isOw_none, Nat.reduceAdd, Nat.reduceLT, Nat.reduceEqDiff, Nat.reduceSub, Int.reduceLT, Int.reduceLE, true_and, and_true, List.map_cons, List.map_nil, List.append_nil, List.nil_append, List.cons_append, List.replicate, wipeR, restore, noOw, List.all_cons, List.all_nil, Bool.not_false, Bool.not_true, Bool.and_true, Bool.and_self, szOk, Nat.reduceLeDiff, Option.getD_some, Option.getD_none, decide_eq_true_eq, Nat.zero_add, out0, List.length_map]
  refine ⟨rfl, (tk hb (n := 4) (by omega) (by omega)).mono ?_⟩
  rintro _ _ ⟨k, b1, k0, k1, rfl, rfl, hb1⟩
  simp -implicitDefEqProofs only [wp_bnd, wp_ret, wp_lift, wpV_some, wpV_none, wpV_ite, wpV_map, wp_stop, wp_ite, wp_mC, wp_mV, wp_mMove, wp_peek, wp_setS, wp_chk, wp_chg', wp_mCall, wp_mCallR, wp_sAug, wp_sAugI, wp_sSeq, wp_mComp, wp_run_nm, wp_run_ex, wp_get_nm, wp_get_ex, wp_mUn, wp_mBin, wp_runs_nil, wp_runs_cons, wp_gets_nil, wp_gets_cons, wp_mFn, wp_it_nil, wp_it_one, wp_it_star, wp_mTup, wp_mLst, wp_mT, wp_mNot, wp_mAnd, wp_mOr, wp_mBl, wp_asT, wp_mAndV, wp_mOrV, wp_mNotB, wp_mIf, wp_mYes, wp_itSeq, wp_itRng, wp_itEnum, wp_itZip, wp_lstRng, wp_tupRng, wp_part_none, wp_part_some, wp_mSl, wp_put_nm, wp_put_tup, wp_putAll_nil, wp_putAll_cons, wp_sNx, wp_sSet, wp_sPut, wp_temps_nil, wp_temps_cons, wp_setAll_nil, wp_setAll_cons, wp_sPar, wp_sDrop, wp_sRet, wp_sIf, wp_sFor, wp_sItem, wp_sApp, wp_sIns, wp_turn1, dat_fz, dat_ow, truth_int, truth_bool, truth_list, truth_tup, asBool_bool, intOf_int, seqOf_list, seqOf_tup, add_int, add_tup, add_list, sub_int, mul_int, mul_tup, mul_list, mod_int, fdiv_int, neg_int, lt_int, le_int, gt_int, ge_int, eq_int, ne_int, is_non, isnot_non, isNon, sl_list, sl_tup, len_list, len_tup, int_int, abs_int, max_2, max_3, min_2, min_3, tuple_list, tuple_tup, list_list, list_tup, app_D, ins_D, oIx_list, oIx_tup, getAt_0, getAt_1, getAt_2, getAt_3, putAt_0, putAt_1, putAt_2, ite_and, if_true, if_false, Bool.false_eq_true, ↓reduceIte, List.getElem?_cons_zero, List.getElem?_cons_succ, List.set_cons_zero, List.set_cons_succ, List.length_cons, List.length_nil, List.length_set, isOw_ow, isOw_fz, isOw_none, Nat.reduceAdd, Nat.reduceLT, Nat.reduceEqDiff, Nat.reduceSub, Int.reduceLT, Int.reduceLE, true_and, and_true, List.map_cons, List.map_nil, List.append_nil, List.nil_append, List.cons_append, List.replicate, wipeR, restore, noOw, List.all_cons, List.all_nil, Bool.not_false, Bool.not_true, Bool.and_true, Bool.and_self, szOk, Nat.reduceLeDiff, Option.getD_some, Option.getD_none, decide_eq_true_eq, Nat.zero_add, out0, List.length_map]
  refine ⟨rfl, (oneI hb1 (lo := 0) (hi := 16) (in_cons (by omega) (in_cons (by omega) (in_cons (by omega) (in_cons (by omega) (in_cons (by omega) (in_cons (by omega) (in_cons (by omega) in_nil))))))) (by simp) (by simp)).mono ?_⟩
  rintro _ _ ⟨mm, b2, m0, m1, rfl, rfl, hb2⟩
  obtain ⟨M, hM⟩ := Int.eq_ofNat_of_zero_le m0
  obtain ⟨f, hf⟩ := Int.eq_ofNat_of_zero_le (show 0 ≤ 1 + k by omega)
  simp -implicitDefEqProofs only [wp_bnd, wp_ret, wp_lift, wpV_some, wpV_none, wpV_ite, wpV_map, wp_stop, wp_ite, wp_mC, wp_mV, wp_mMove, wp_peek, wp_setS, wp_chk, wp_chg', wp_mCall, wp_mCallR, wp_sAug, wp_sAugI, wp_sSeq, wp_mComp, wp_run_nm, wp_run_ex, wp_get_nm, wp_get_ex, wp_mUn, wp_mBin, wp_runs_nil, wp_runs_cons, wp_gets_nil, wp_gets_cons, wp_mFn, wp_it_nil, wp_it_one, wp_it_star, wp_mTup, wp_mLst, wp_mT, wp_mNot, wp_mAnd, wp_mOr, wp_mBl, wp_asT, wp_mAndV, wp_mOrV, wp_mNotB, wp_mIf, wp_mYes, wp_itSeq, wp_itRng, wp_itEnum, wp_itZip, wp_lstRng, wp_tupRng, wp_part_none, wp_part_some, wp_mSl, wp_put_nm, wp_put_tup, wp_putAll_nil, wp_putAll_cons, wp_sNx, wp_sSet, wp_sPut, wp_temps_nil, wp_temps_cons, wp_setAll_nil, wp_setAll_cons, wp_sPar, wp_sDrop, wp_sRet, wp_sIf, wp_sFor, wp_sItem, wp_sApp, wp_sIns, wp_turn1, dat_fz, dat_ow, truth_int, truth_bool, truth_list, truth_tup, asBool_bool, intOf_int, seqOf_list, seqOf_tup, add_int, add_tup, add_list, sub_int, mul_int, mul_tup, mul_list, mod_int, fdiv_int, neg_int, lt_int, le_int, gt_int, ge_int, eq_int, ne_int, is_non, isnot_non, isNon, sl_list, sl_tup, len_list, len_tup, int_int, abs_int, max_2, max_3, min_2, min_3, tuple_list, tuple_tup, list_list, list_tup, app_D, ins_D, oIx_list, oIx_tup, getAt_0, getAt_1, getAt_2, getAt_3, putAt_0, putAt_1, putAt_2, ite_and, if_true, if_false, Bool.false_eq_true, ↓reduceIte, List.getElem?_cons_zero, List.getElem?_cons_succ, List.set_cons_zero, List.set_cons_succ, List.length_cons, List.length_nil, List.length_set, isOw_ow, isOw_fz, isOw_none, Nat.reduceAdd, Nat.reduceLT, Nat.reduceEqDiff, Nat.reduceSub, Int.reduceLT, Int.reduceLE, true_and, and_true, List.map_cons, List.map_nil, List.append_nil, List.nil_append, List.cons_append, List.replicate, wipeR, restore, noOw, List.all_cons, List.all_nil, Bool.not_false, Bool.not_true, Bool.and_true, Bool.and_self, szOk, Nat.reduceLeDiff, Option.getD_some, Option.getD_none, decide_eq_true_eq, Nat.zero_add, out0, List.length_map, hM, hf]
  refine ⟨rfl, (rows_ok hb2 (M := M) (f := f) (by omega) (by omega)).mono ?_⟩
  rintro _ _ ⟨rows, b3, rfl, r1, r2, r3, rfl, hb3⟩
  simp -implicitDefEqProofs only [wp_bnd, wp_ret, wp_lift, wpV_some, wpV_none, wpV_ite, wpV_map, wp_stop, wp_ite, wp_mC, wp_mV, wp_mMove, wp_peek, wp_setS, wp_chk, wp_chg', wp_mCall, wp_mCallR, wp_sAug, wp_sAugI, wp_sSeq, wp_mComp, wp_run_nm, wp_run_ex, wp_get_nm, wp_get_ex, wp_mUn, wp_mBin, wp_runs_nil, wp_runs_cons, wp_gets_nil, wp_gets_cons, wp_mFn, wp_it_nil, wp_it_one, wp_it_star, wp_mTup, wp_mLst, wp_mT, wp_mNot, wp_mAnd, wp_mOr, wp_mBl, wp_asT, wp_mAndV, wp_mOrV, wp_mNotB, wp_mIf, wp_mYes, wp_itSeq, wp_itRng, wp_itEnum, wp_itZip, wp_lstRng, wp_tupRng, wp_part_none, wp_part_some, wp_mSl, wp_put_nm, wp_put_tup, wp_putAll_nil, wp_putAll_cons, wp_sNx, wp_sSet, wp_sPut, wp_temps_nil, wp_temps_cons, wp_setAll_nil, wp_setAll_cons, wp_sPar, wp_sDrop, wp_sRet, wp_sIf, wp_sFor, wp_sItem, wp_sApp, wp_sIns, wp_turn1, dat_fz, dat_ow, truth_int, truth_bool, truth_list, truth_tup, asBool_bool, intOf_int, seqOf_list, seqOf_tup, add_int, add_tup, add_list, sub_int, mul_int, mul_tup, mul_list, mod_int, fdiv_int, neg_int, lt_int, le_int, gt_int, ge_int, eq_int, ne_int, is_non, isnot_non, isNon, sl_list, sl_tup, len_list, len_tup, int_int, abs_int, max_2, max_3, min_2, min_3, tuple_list, tuple_tup, list_list, list_tup, app_D, ins_D, oIx_list, oIx_tup, getAt_0, getAt_1, getAt_2, getAt_3, putAt_0, putAt_1, putAt_2, ite_and, if_true, if_false, Bool.false_eq_true, ↓reduceIte, List.getElem?_cons_zero, List.getElem?_cons_succ, List.set_cons_zero, List.set_cons_succ, List.length_cons, List.length_nil, List.length_set, isOw_ow, isOw_fz, isOw_none, Nat.reduceAdd, Nat.reduceLT, Nat.reduceEqDiff, Nat.reduceSub, Int.reduceLT, Int.reduceLE, true_and, and_true, List.map_cons, List.map_nil, List.append_nil, List.nil_append, List.cons_append, List.replicate, wipeR, restore, noOw, List.all_cons, List.all_nil, Bool.not_false, Bool.not_true, Bool.and_true, Bool.and_self, szOk, Nat.reduceLeDiff, Option.getD_some, Option.getD_none, decide_eq_true_eq, Nat.zero_add, out0, List.length_map]
  refine ⟨rfl, (some_sizes_ok hb3 (M := M) (f := f) (by omega) (by omega)).mono ?_⟩
  rintro _ _ ⟨ss, b4, rfl, s1, s2, rfl, hb4⟩
  simp -implicitDefEqProofs only [wp_bnd, wp_ret, wp_lift, wpV_some, wpV_none, wpV_ite, wpV_map, wp_stop, wp_ite, wp_mC, wp_mV, wp_mMove, wp_peek, wp_setS, wp_chk, wp_chg', wp_mCall, wp_mCallR, wp_sAug, wp_sAugI, wp_sSeq, wp_mComp, wp_run_nm, wp_run_ex, wp_get_nm, wp_get_ex, wp_mUn, wp_mBin, wp_runs_nil, wp_runs_cons, wp_gets_nil, wp_gets_cons, wp_mFn, wp_it_nil, wp_it_one, wp_it_star, wp_mTup, wp_mLst, wp_mT, wp_mNot, wp_mAnd, wp_mOr, wp_mBl, wp_asT, wp_mAndV, wp_mOrV, wp_mNotB, wp_mIf, wp_mYes, wp_itSeq, wp_itRng, wp_itEnum, wp_itZip, wp_lstRng, wp_tupRng, wp_part_none, wp_part_some, wp_mSl, wp_put_nm, wp_put_tup, wp_putAll_nil, wp_putAll_cons, wp_sNx, wp_sSet, wp_sPut, wp_temps_nil, wp_temps_cons, wp_setAll_nil, wp_setAll_cons, wp_sPar, wp_sDrop, wp_sRet, wp_sIf, wp_sFor, wp_sItem, wp_sApp, wp_sIns, wp_turn1, dat_fz, dat_ow, truth_int, truth_bool, truth_list, truth_tup, asBool_bool, intOf_int, seqOf_list, seqOf_tup, add_int, add_tup, add_list, sub_int, mul_int, mul_tup, mul_list, mod_int, fdiv_int, neg_int, lt_int, le_int, gt_int, ge_int, eq_int, ne_int, is_non, isnot_non, isNon, sl_list, sl_tup, len_list, len_tup, int_int, abs_int, max_2, max_3, min_2, min_3, tuple_list, tuple_tup, list_list, list_tup, app_D, ins_D, oIx_list, oIx_tup, getAt_0, getAt_1, getAt_2, getAt_3, putAt_0, putAt_1, putAt_2, ite_and, if_true, if_false, Bool.false_eq_true, ↓reduceIte, List.getElem?_cons_zero, List.getElem?_cons_succ, List.set_cons_zero, List.set_cons_succ, List.length_cons, List.length_nil, List.length_set, isOw_ow, isOw_fz, isOw_none, Nat.reduceAdd, Nat.reduceLT, Nat.reduceEqDiff, Nat.reduceSub, Int.reduceLT, Int.reduceLE, true_and, and_true, List.map_cons, List.map_nil, List.append_nil, List.nil_append, List.cons_append, List.replicate, wipeR, restore, noOw, List.all_cons, List.all_nil, Bool.not_false, Bool.not_true, Bool.and_true, Bool.and_self, szOk, Nat.reduceLeDiff, Option.getD_some, Option.getD_none, decide_eq_true_eq, Nat.zero_add, out0, List.length_map]
  refine ⟨rfl, (is_told_ok (m := M) (fun e => ?_) (by rw [r1, s1]) (by omega) (by omega) r2 r3 s2).mono ?_⟩
  · rw [e] at r1
    simp only [List.length_nil] at r1
    omega
  rintro _ _ rfl
  simp -implicitDefEqProofs only [wp_bnd, wp_ret, wp_lift, wpV_some, wpV_none, wpV_ite, wpV_map, wp_stop, wp_ite, wp_mC, wp_mV, wp_mMove, wp_peek, wp_setS, wp_chk, wp_chg', wp_mCall, wp_mCallR, wp_sAug, wp_sAugI, wp_sSeq, wp_mComp, wp_run_nm, wp_run_ex, wp_get_nm, wp_get_ex, wp_mUn, wp_mBin, wp_runs_nil, wp_runs_cons, wp_gets_nil, wp_gets_cons, wp_mFn, wp_it_nil, wp_it_one, wp_it_star, wp_mTup, wp_mLst, wp_mT, wp_mNot, wp_mAnd, wp_mOr, wp_mBl, wp_asT, wp_mAndV, wp_mOrV, wp_mNotB, wp_mIf, wp_mYes, wp_itSeq, wp_itRng, wp_itEnum, wp_itZip, wp_lstRng, wp_tupRng, wp_part_none, wp_part_some, wp_mSl, wp_put_nm, wp_put_tup, wp_putAll_nil, wp_putAll_cons, wp_sNx, wp_sSet, wp_sPut, wp_temps_nil, wp_temps_cons, wp_setAll_nil, wp_setAll_cons, wp_sPar, wp_sDrop, wp_sRet, wp_sIf, wp_sFor, wp_sItem, wp_sApp, wp_sIns, wp_turn1, dat_fz, dat_ow, truth_int, truth_bool, truth_list, truth_tup, asBool_bool, intOf_int, seqOf_list, seqOf_tup, add_int, add_tup, add_list, sub_int, mul_int, mul_tup, mul_list, mod_int, fdiv_int, neg_int, lt_int, le_int, gt_int, ge_int, eq_int, ne_int, is_non, isnot_non, isNon, sl_list, sl_tup, len_list, len_tup, int_int, abs_int, max_2, max_3, min_2, min_3, tuple_list, tuple_tup, list_list, list_tup, app_D, ins_D, oIx_list, oIx_tup, getAt_0, getAt_1, getAt_2, getAt_3, putAt_0, putAt_1, putAt_2, ite_and, if_true, if_false, Bool.false_eq_true, ↓reduceIte, List.getElem?_cons_zero, List.getElem?_cons_succ, List.set_cons_zero, List.set_cons_succ, List.length_cons, List.length_nil, List.length_set, isOw_ow, isOw_fz, isOw_none, Nat.reduceAdd, Nat.reduceLT, Nat.reduceEqDiff, Nat.reduceSub, Int.reduceLT, Int.reduceLE, true_and, and_true, List.map_cons, List.map_nil, List.append_nil, List.nil_append, List.cons_append, List.replicate, wipeR, restore, noOw, List.all_cons, List.all_nil, Bool.not_false, Bool.not_true, Bool.and_true, Bool.and_self, szOk, Nat.reduceLeDiff, Option.getD_some, Option.getD_none, decide_eq_true_eq, Nat.zero_add, out0, List.length_map]
  refine ⟨rfl, (oneI hb4 (lo := 0) (hi := 16) (in_cons (by omega) (in_cons (by omega) (in_cons (by omega) in_nil))) (by simp) (by simp)).mono ?_⟩
  rintro _ _ ⟨tt, b5, t0, t1, rfl, rfl, hb5⟩
  obtain ⟨T, hT⟩ := Int.eq_ofNat_of_zero_le t0
  simp -implicitDefEqProofs only [wp_bnd, wp_ret, wp_lift, wpV_some, wpV_none, wpV_ite, wpV_map, wp_stop, wp_ite, wp_mC, wp_mV, wp_mMove, wp_peek, wp_setS, wp_chk, wp_chg', wp_mCall, wp_mCallR, wp_sAug, wp_sAugI, wp_sSeq, wp_mComp, wp_run_nm, wp_run_ex, wp_get_nm, wp_get_ex, wp_mUn, wp_mBin, wp_runs_nil, wp_runs_cons, wp_gets_nil, wp_gets_cons, wp_mFn, wp_it_nil, wp_it_one, wp_it_star, wp_mTup, wp_mLst, wp_mT, wp_mNot, wp_mAnd, wp_mOr, wp_mBl, wp_asT, wp_mAndV, wp_mOrV, wp_mNotB, wp_mIf, wp_mYes, wp_itSeq, wp_itRng, wp_itEnum, wp_itZip, wp_lstRng, wp_tupRng, wp_part_none, wp_part_some, wp_mSl, wp_put_nm, wp_put_tup, wp_putAll_nil, wp_putAll_cons, wp_sNx, wp_sSet, wp_sPut, wp_temps_nil, wp_temps_cons, wp_setAll_nil, wp_setAll_cons, wp_sPar, wp_sDrop, wp_sRet, wp_sIf, wp_sFor, wp_sItem, wp_sApp, wp_sIns, wp_turn1, dat_fz, dat_ow, truth_int, truth_bool, truth_list, truth_tup, asBool_bool, intOf_int, seqOf_list, seqOf_tup, add_int, add_tup, add_list, sub_int, mul_int, mul_tup, mul_list, mod_int, fdiv_int, neg_int, lt_int, le_int, gt_int, ge_int, eq_int, ne_int, is_non, isnot_non, isNon, sl_list, sl_tup, len_list, len_tup, int_int, abs_int, max_2, max_3, min_2, min_3, tuple_list, tuple_tup, list_list, list_tup, app_D, ins_D, oIx_list, oIx_tup, getAt_0, getAt_1, getAt_2, getAt_3, putAt_0, putAt_1, putAt_2, ite_and, if_true, if_false, Bool.false_eq_true, ↓reduceIte, List.getElem?_cons_zero, List.getElem?_cons_succ, List.set_cons_zero, List.set_cons_succ, List.length_cons, List.length_nil, List.length_set, isOw_ow, isOw_fz, isOw_none, Nat.reduceAdd, Nat.reduceLT, Nat.reduceEqDiff, Nat.reduceSub, Int.reduceLT, Int.reduceLE, true_and, and_true, List.map_cons, List.map_nil, List.append_nil, List.nil_append, List.cons_append, List.replicate, wipeR, restore, noOw, List.all_cons, List.all_nil, Bool.not_false, Bool.not_true, Bool.and_true, Bool.and_self, szOk, Nat.reduceLeDiff, Option.getD_some, Option.getD_none, decide_eq_true_eq, Nat.zero_add, out0, List.length_map, hT]
  refine ⟨rfl, (house_ok hb5 (T := T) (F := 4) (R := 12) (by omega) (by omega) (by omega)).mono ?_⟩
  rintro _ _ ⟨m, rs, b6, rfl, h1, h2, h3, h4, rfl, hb6⟩
  simp -implicitDefEqProofs only [wp_bnd, wp_ret, wp_lift, wpV_some, wpV_none, wpV_ite, wpV_map, wp_stop, wp_ite, wp_mC, wp_mV, wp_mMove, wp_peek, wp_setS, wp_chk, wp_chg', wp_mCall, wp_mCallR, wp_sAug, wp_sAugI, wp_sSeq, wp_mComp, wp_run_nm, wp_run_ex, wp_get_nm, wp_get_ex, wp_mUn, wp_mBin, wp_runs_nil, wp_runs_cons, wp_gets_nil, wp_gets_cons, wp_mFn, wp_it_nil, wp_it_one, wp_it_star, wp_mTup, wp_mLst, wp_mT, wp_mNot, wp_mAnd, wp_mOr, wp_mBl, wp_asT, wp_mAndV, wp_mOrV, wp_mNotB, wp_mIf, wp_mYes, wp_itSeq, wp_itRng, wp_itEnum, wp_itZip, wp_lstRng, wp_tupRng, wp_part_none, wp_part_some, wp_mSl, wp_put_nm, wp_put_tup, wp_putAll_nil, wp_putAll_cons, wp_sNx, wp_sSet, wp_sPut, wp_temps_nil, wp_temps_cons, wp_setAll_nil, wp_setAll_cons, wp_sPar, wp_sDrop, wp_sRet, wp_sIf, wp_sFor, wp_sItem, wp_sApp, wp_sIns, wp_turn1, dat_fz, dat_ow, truth_int, truth_bool, truth_list, truth_tup, asBool_bool, intOf_int, seqOf_list, seqOf_tup, add_int, add_tup, add_list, sub_int, mul_int, mul_tup, mul_list, mod_int, fdiv_int, neg_int, lt_int, le_int, gt_int, ge_int, eq_int, ne_int, is_non, isnot_non, isNon, sl_list, sl_tup, len_list, len_tup, int_int, abs_int, max_2, max_3, min_2, min_3, tuple_list, tuple_tup, list_list, list_tup, app_D, ins_D, oIx_list, oIx_tup, getAt_0, getAt_1, getAt_2, getAt_3, putAt_0, putAt_1, putAt_2, ite_and, if_true, if_false, Bool.false_eq_true, ↓reduceIte, List.getElem?_cons_zero, List.getElem?_cons_succ, List.set_cons_zero, List.set_cons_succ, List.length_cons, List.length_nil, List.length_set, isOw_ow, isOw_fz, isOw_none, Nat.reduceAdd, Nat.reduceLT, Nat.reduceEqDiff, Nat.reduceSub, Int.reduceLT, Int.reduceLE, true_and, and_true, List.map_cons, List.map_nil, List.append_nil, List.nil_append, List.cons_append, List.replicate, wipeR, restore, noOw, List.all_cons, List.all_nil, Bool.not_false, Bool.not_true, Bool.and_true, Bool.and_self, szOk, Nat.reduceLeDiff, Option.getD_some, Option.getD_none, decide_eq_true_eq, Nat.zero_add, out0, List.length_map]
  refine ⟨rfl, (tight_known_ok (mi := (m : Int)) rfl hb6 (by omega) h2 (by omega) h4).mono ?_⟩
  rintro _ _ ⟨⟨os, W, ss', rfl, ho, t, hl⟩, b7, rfl, hb7⟩
  have gf := good_facts (by omega) t hl
  simp -implicitDefEqProofs only [wp_bnd, wp_ret, wp_lift, wpV_some, wpV_none, wpV_ite, wpV_map, wp_stop, wp_ite, wp_mC, wp_mV, wp_mMove, wp_peek, wp_setS, wp_chk, wp_chg', wp_mCall, wp_mCallR, wp_sAug, wp_sAugI, wp_sSeq, wp_mComp, wp_run_nm, wp_run_ex, wp_get_nm, wp_get_ex, wp_mUn, wp_mBin, wp_runs_nil, wp_runs_cons, wp_gets_nil, wp_gets_cons, wp_mFn, wp_it_nil, wp_it_one, wp_it_star, wp_mTup, wp_mLst, wp_mT, wp_mNot, wp_mAnd, wp_mOr, wp_mBl, wp_asT, wp_mAndV, wp_mOrV, wp_mNotB, wp_mIf, wp_mYes, wp_itSeq, wp_itRng, wp_itEnum, wp_itZip, wp_lstRng, wp_tupRng, wp_part_none, wp_part_some, wp_mSl, wp_put_nm, wp_put_tup, wp_putAll_nil, wp_putAll_cons, wp_sNx, wp_sSet, wp_sPut, wp_temps_nil, wp_temps_cons, wp_setAll_nil, wp_setAll_cons, wp_sPar, wp_sDrop, wp_sRet, wp_sIf, wp_sFor, wp_sItem, wp_sApp, wp_sIns, wp_turn1, dat_fz, dat_ow, truth_int, truth_bool, truth_list, truth_tup, asBool_bool, intOf_int, seqOf_list, seqOf_tup, add_int, add_tup, add_list, sub_int, mul_int, mul_tup, mul_list, mod_int, fdiv_int, neg_int, lt_int, le_int, gt_int, ge_int, eq_int, ne_int, is_non, isnot_non, isNon, sl_list, sl_tup, len_list, len_tup, int_int, abs_int, max_2, max_3, min_2, min_3, tuple_list, tuple_tup, list_list, list_tup, app_D, ins_D, oIx_list, oIx_tup, getAt_0, getAt_1, getAt_2, getAt_3, putAt_0, putAt_1, putAt_2, ite_and, if_true, if_false, Bool.false_eq_true, ↓reduceIte, List.getElem?_cons_zero, List.getElem?_cons_succ, List.set_cons_zero, List.set_cons_succ, List.length_cons, List.length_nil, List.length_set, isOw_ow, isOw_fz, isOw_none, Nat.reduceAdd, Nat.reduceLT, Nat.reduceEqDiff, Nat.reduceSub, Int.reduceLT, Int.reduceLE, true_and, and_true, List.map_cons, List.map_nil, List.append_nil, List.nil_append, List.cons_append, List.replicate, wipeR, restore, noOw, List.all_cons, List.all_nil, Bool.not_false, Bool.not_true, Bool.and_true, Bool.and_self, szOk, Nat.reduceLeDiff, Option.getD_some, Option.getD_none, decide_eq_true_eq, Nat.zero_add, out0, List.length_map]
  refine ⟨rfl, (known_sizes_ok gf.1).mono ?_⟩
  rintro _ _ rfl
  simp -implicitDefEqProofs only [wp_bnd, wp_ret, wp_lift, wpV_some, wpV_none, wpV_ite, wpV_map, wp_stop, wp_ite, wp_mC, wp_mV, wp_mMove, wp_peek, wp_setS, wp_chk, wp_chg', wp_mCall, wp_mCallR, wp_sAug, wp_sAugI, wp_sSeq, wp_mComp, wp_run_nm, wp_run_ex, wp_get_nm, wp_get_ex, wp_mUn, wp_mBin, wp_runs_nil, wp_runs_cons, wp_gets_nil, wp_gets_cons, wp_mFn, wp_it_nil, wp_it_one, wp_it_star, wp_mTup, wp_mLst, wp_mT, wp_mNot, wp_mAnd, wp_mOr, wp_mBl, wp_asT, wp_mAndV, wp_mOrV, wp_mNotB, wp_mIf, wp_mYes, wp_itSeq, wp_itRng, wp_itEnum, wp_itZip, wp_lstRng, wp_tupRng, wp_part_none, wp_part_some, wp_mSl, wp_put_nm, wp_put_tup, wp_putAll_nil, wp_putAll_cons, wp_sNx, wp_sSet, wp_sPut, wp_temps_nil, wp_temps_cons, wp_setAll_nil, wp_setAll_cons, wp_sPar, wp_sDrop, wp_sRet, wp_sIf, wp_sFor, wp_sItem, wp_sApp, wp_sIns, wp_turn1, dat_fz, dat_ow, truth_int, truth_bool, truth_list, truth_tup, asBool_bool, intOf_int, seqOf_list, seqOf_tup, add_int, add_tup, add_list, sub_int, mul_int, mul_tup, mul_list, mod_int, fdiv_int, neg_int, lt_int, le_int, gt_int, ge_int, eq_int, ne_int, is_non, isnot_non, isNon, sl_list, sl_tup, len_list, len_tup, int_int, abs_int, max_2, max_3, min_2, min_3, tuple_list, tuple_tup, list_list, list_tup, app_D, ins_D, oIx_list, oIx_tup, getAt_0, getAt_1, getAt_2, getAt_3, putAt_0, putAt_1, putAt_2, ite_and, if_true, if_false, Bool.false_eq_true, ↓reduceIte, List.getElem?_cons_zero, List.getElem?_cons_succ, List.set_cons_zero, List.set_cons_succ, List.length_cons, List.length_nil, List.length_set, isOw_ow, isOw_fz, isOw_none, Nat.reduceAdd, Nat.reduceLT, Nat.reduceEqDiff, Nat.reduceSub, Int.reduceLT, Int.reduceLE, true_and, and_true, List.map_cons, List.map_nil, List.append_nil, List.nil_append, List.cons_append, List.replicate, wipeR, restore, noOw, List.all_cons, List.all_nil, Bool.not_false, Bool.not_true, Bool.and_true, Bool.and_self, szOk, Nat.reduceLeDiff, Option.getD_some, Option.getD_none, decide_eq_true_eq, Nat.zero_add, out0, List.length_map]
  refine ⟨rfl, (is_nested_ok ho (by omega) gf.2.1).mono ?_⟩
  rintro _ _ rfl
  simp -implicitDefEqProofs only [wp_bnd, wp_ret, wp_lift, wpV_some, wpV_none, wpV_ite, wpV_map, wp_stop, wp_ite, wp_mC, wp_mV, wp_mMove, wp_peek, wp_setS, wp_chk, wp_chg', wp_mCall, wp_mCallR, wp_sAug, wp_sAugI, wp_sSeq, wp_mComp, wp_run_nm, wp_run_ex, wp_get_nm, wp_get_ex, wp_mUn, wp_mBin, wp_runs_nil, wp_runs_cons, wp_gets_nil, wp_gets_cons, wp_mFn, wp_it_nil, wp_it_one, wp_it_star, wp_mTup, wp_mLst, wp_mT, wp_mNot, wp_mAnd, wp_mOr, wp_mBl, wp_asT, wp_mAndV, wp_mOrV, wp_mNotB, wp_mIf, wp_mYes, wp_itSeq, wp_itRng, wp_itEnum, wp_itZip, wp_lstRng, wp_tupRng, wp_part_none, wp_part_some, wp_mSl, wp_put_nm, wp_put_tup, wp_putAll_nil, wp_putAll_cons, wp_sNx, wp_sSet, wp_sPut, wp_temps_nil, wp_temps_cons, wp_setAll_nil, wp_setAll_cons, wp_sPar, wp_sDrop, wp_sRet, wp_sIf, wp_sFor, wp_sItem, wp_sApp, wp_sIns, wp_turn1, dat_fz, dat_ow, truth_int, truth_bool, truth_list, truth_tup, asBool_bool, intOf_int, seqOf_list, seqOf_tup, add_int, add_tup, add_list, sub_int, mul_int, mul_tup, mul_list, mod_int, fdiv_int, neg_int, lt_int, le_int, gt_int, ge_int, eq_int, ne_int, is_non, isnot_non, isNon, sl_list, sl_tup, len_list, len_tup, int_int, abs_int, max_2, max_3, min_2, min_3, tuple_list, tuple_tup, list_list, list_tup, app_D, ins_D, oIx_list, oIx_tup, getAt_0, getAt_1, getAt_2, getAt_3, putAt_0, putAt_1, putAt_2, ite_and, if_true, if_false, Bool.false_eq_true, ↓reduceIte, List.getElem?_cons_zero, List.getElem?_cons_succ, List.set_cons_zero, List.set_cons_succ, List.length_cons, List.length_nil, List.length_set, isOw_ow, isOw_fz, isOw_none, Nat.reduceAdd, Nat.reduceLT, Nat.reduceEqDiff, Nat.reduceSub, Int.reduceLT, Int.reduceLE, true_and, and_true, List.map_cons, List.map_nil, List.append_nil, List.nil_append, List.cons_append, List.replicate, wipeR, restore, noOw, List.all_cons, List.all_nil, Bool.not_false, Bool.not_true, Bool.and_true, Bool.and_self, szOk, Nat.reduceLeDiff, Option.getD_some, Option.getD_none, decide_eq_true_eq, Nat.zero_add, out0, List.length_map]
  refine ⟨rfl, (law_known_sizes_ok gf.1).mono ?_⟩
  rintro _ _ rfl
  simp -implicitDefEqProofs only [wp_bnd, wp_ret, wp_lift, wpV_some, wpV_none, wpV_ite, wpV_map, wp_stop, wp_ite, wp_mC, wp_mV, wp_mMove, wp_peek, wp_setS, wp_chk, wp_chg', wp_mCall, wp_mCallR, wp_sAug, wp_sAugI, wp_sSeq, wp_mComp, wp_run_nm, wp_run_ex, wp_get_nm, wp_get_ex, wp_mUn, wp_mBin, wp_runs_nil, wp_runs_cons, wp_gets_nil, wp_gets_cons, wp_mFn, wp_it_nil, wp_it_one, wp_it_star, wp_mTup, wp_mLst, wp_mT, wp_mNot, wp_mAnd, wp_mOr, wp_mBl, wp_asT, wp_mAndV, wp_mOrV, wp_mNotB, wp_mIf, wp_mYes, wp_itSeq, wp_itRng, wp_itEnum, wp_itZip, wp_lstRng, wp_tupRng, wp_part_none, wp_part_some, wp_mSl, wp_put_nm, wp_put_tup, wp_putAll_nil, wp_putAll_cons, wp_sNx, wp_sSet, wp_sPut, wp_temps_nil, wp_temps_cons, wp_setAll_nil, wp_setAll_cons, wp_sPar, wp_sDrop, wp_sRet, wp_sIf, wp_sFor, wp_sItem, wp_sApp, wp_sIns, wp_turn1, dat_fz, dat_ow, truth_int, truth_bool, truth_list, truth_tup, asBool_bool, intOf_int, seqOf_list, seqOf_tup, add_int, add_tup, add_list, sub_int, mul_int, mul_tup, mul_list, mod_int, fdiv_int, neg_int, lt_int, le_int, gt_int, ge_int, eq_int, ne_int, is_non, isnot_non, isNon, sl_list, sl_tup, len_list, len_tup, int_int, abs_int, max_2, max_3, min_2, min_3, tuple_list, tuple_tup, list_list, list_tup, app_D, ins_D, oIx_list, oIx_tup, getAt_0, getAt_1, getAt_2, getAt_3, putAt_0, putAt_1, putAt_2, ite_and, if_true, if_false, Bool.false_eq_true, ↓reduceIte, List.getElem?_cons_zero, List.getElem?_cons_succ, List.set_cons_zero, List.set_cons_succ, List.length_cons, List.length_nil, List.length_set, isOw_ow, isOw_fz, isOw_none, Nat.reduceAdd, Nat.reduceLT, Nat.reduceEqDiff, Nat.reduceSub, Int.reduceLT, Int.reduceLE, true_and, and_true, List.map_cons, List.map_nil, List.append_nil, List.nil_append, List.cons_append, List.replicate, wipeR, restore, noOw, List.all_cons, List.all_nil, Bool.not_false, Bool.not_true, Bool.and_true, Bool.and_self, szOk, Nat.reduceLeDiff, Option.getD_some, Option.getD_none, decide_eq_true_eq, Nat.zero_add, out0, List.length_map]
  refine ⟨rfl, (law_is_nested_ok (by omega) gf.2.1).mono ?_⟩
  rintro _ _ rfl
  simp -implicitDefEqProofs only [wp_bnd, wp_ret, wp_lift, wpV_some, wpV_none, wpV_ite, wpV_map, wp_stop, wp_ite, wp_mC, wp_mV, wp_mMove, wp_peek, wp_setS, wp_chk, wp_chg', wp_mCall, wp_mCallR, wp_sAug, wp_sAugI, wp_sSeq, wp_mComp, wp_run_nm, wp_run_ex, wp_get_nm, wp_get_ex, wp_mUn, wp_mBin, wp_runs_nil, wp_runs_cons, wp_gets_nil, wp_gets_cons, wp_mFn, wp_it_nil, wp_it_one, wp_it_star, wp_mTup, wp_mLst, wp_mT, wp_mNot, wp_mAnd, wp_mOr, wp_mBl, wp_asT, wp_mAndV, wp_mOrV, wp_mNotB, wp_mIf, wp_mYes, wp_itSeq, wp_itRng, wp_itEnum, wp_itZip, wp_lstRng, wp_tupRng, wp_part_none, wp_part_some, wp_mSl, wp_put_nm, wp_put_tup, wp_putAll_nil, wp_putAll_cons, wp_sNx, wp_sSet, wp_sPut, wp_temps_nil, wp_temps_cons, wp_setAll_nil, wp_setAll_cons, wp_sPar, wp_sDrop, wp_sRet, wp_sIf, wp_sFor, wp_sItem, wp_sApp, wp_sIns, wp_turn1, dat_fz, dat_ow, truth_int, truth_bool, truth_list, truth_tup, asBool_bool, intOf_int, seqOf_list, seqOf_tup, add_int, add_tup, add_list, sub_int, mul_int, mul_tup, mul_list, mod_int, fdiv_int, neg_int, lt_int, le_int, gt_int, ge_int, eq_int, ne_int, is_non, isnot_non, isNon, sl_list, sl_tup, len_list, len_tup, int_int, abs_int, max_2, max_3, min_2, min_3, tuple_list, tuple_tup, list_list, list_tup, app_D, ins_D, oIx_list, oIx_tup, getAt_0, getAt_1, getAt_2, getAt_3, putAt_0, putAt_1, putAt_2, ite_and, if_true, if_false, Bool.false_eq_true, ↓reduceIte, List.getElem?_cons_zero, List.getElem?_cons_succ, List.set_cons_zero, List.set_cons_succ, List.length_cons, List.length_nil, List.length_set, isOw_ow, isOw_fz, isOw_none, Nat.reduceAdd, Nat.reduceLT, Nat.reduceEqDiff, Nat.reduceSub, Int.reduceLT, Int.reduceLE, true_and, and_true, List.map_cons, List.map_nil, List.append_nil, List.nil_append, List.cons_append, List.replicate, wipeR, restore, noOw, List.all_cons, List.all_nil, Bool.not_false, Bool.not_true, Bool.and_true, Bool.and_self, szOk, Nat.reduceLeDiff, Option.getD_some, Option.getD_none, decide_eq_true_eq, Nat.zero_add, out0, List.length_map, ← gf.2.2.2.2.2.2.1]
  refine ⟨rfl, (alike_ok gf.2.2.2.2.2.2.2 (by omega) (by omega)).mono ?_⟩
  rintro _ _ rfl
  simp -implicitDefEqProofs only [wp_bnd, wp_ret, wp_lift, wpV_some, wpV_none, wpV_ite, wpV_map, wp_stop, wp_ite, wp_mC, wp_mV, wp_mMove, wp_peek, wp_setS, wp_chk, wp_chg', wp_mCall, wp_mCallR, wp_sAug, wp_sAugI, wp_sSeq, wp_mComp, wp_run_nm, wp_run_ex, wp_get_nm, wp_get_ex, wp_mUn, wp_mBin, wp_runs_nil, wp_runs_cons, wp_gets_nil, wp_gets_cons, wp_mFn, wp_it_nil, wp_it_one, wp_it_star, wp_mTup, wp_mLst, wp_mT, wp_mNot, wp_mAnd, wp_mOr, wp_mBl, wp_asT, wp_mAndV, wp_mOrV, wp_mNotB, wp_mIf, wp_mYes, wp_itSeq, wp_itRng, wp_itEnum, wp_itZip, wp_lstRng, wp_tupRng, wp_part_none, wp_part_some, wp_mSl, wp_put_nm, wp_put_tup, wp_putAll_nil, wp_putAll_cons, wp_sNx, wp_sSet, wp_sPut, wp_temps_nil, wp_temps_cons, wp_setAll_nil, wp_setAll_cons, wp_sPar, wp_sDrop, wp_sRet, wp_sIf, wp_sFor, wp_sItem, wp_sApp, wp_sIns, wp_turn1, dat_fz, dat_ow, truth_int, truth_bool, truth_list, truth_tup, asBool_bool, intOf_int, seqOf_list, seqOf_tup, add_int, add_tup, add_list, sub_int, mul_int, mul_tup, mul_list, mod_int, fdiv_int, neg_int, lt_int, le_int, gt_int, ge_int, eq_int, ne_int, is_non, isnot_non, isNon, sl_list, sl_tup, len_list, len_tup, int_int, abs_int, max_2, max_3, min_2, min_3, tuple_list, tuple_tup, list_list, list_tup, app_D, ins_D, oIx_list, oIx_tup, getAt_0, getAt_1, getAt_2, getAt_3, putAt_0, putAt_1, putAt_2, ite_and, if_true, if_false, Bool.false_eq_true, ↓reduceIte, List.getElem?_cons_zero, List.getElem?_cons_succ, List.set_cons_zero, List.set_cons_succ, List.length_cons, List.length_nil, List.length_set, isOw_ow, isOw_fz, isOw_none, Nat.reduceAdd, Nat.reduceLT, Nat.reduceEqDiff, Nat.reduceSub, Int.reduceLT, Int.reduceLE, true_and, and_true, List.map_cons, List.map_nil, List.append_nil, List.nil_append, List.cons_append, List.replicate, wipeR, restore, noOw, List.all_cons, List.all_nil, Bool.not_false, Bool.not_true, Bool.and_true, Bool.and_self, szOk, Nat.reduceLeDiff, Option.getD_some, Option.getD_none, decide_eq_true_eq, Nat.zero_add, out0, List.length_map]
  refine ⟨rfl, (law_known_sizes_ok gf.1).mono ?_⟩
  rintro _ _ rfl
  simp -implicitDefEqProofs only [wp_bnd, wp_ret, wp_lift, wpV_some, wpV_none, wpV_ite, wpV_map, wp_stop, wp_ite, wp_mC, wp_mV, wp_mMove, wp_peek, wp_setS, wp_chk, wp_chg', wp_mCall, wp_mCallR, wp_sAug, wp_sAugI, wp_sSeq, wp_mComp, wp_run_nm, wp_run_ex, wp_get_nm, wp_get_ex, wp_mUn, wp_mBin, wp_runs_nil, wp_runs_cons, wp_gets_nil, wp_gets_cons, wp_mFn, wp_it_nil, wp_it_one, wp_it_star, wp_mTup, wp_mLst, wp_mT, wp_mNot, wp_mAnd, wp_mOr, wp_mBl, wp_asT, wp_mAndV, wp_mOrV, wp_mNotB, wp_mIf, wp_mYes, wp_itSeq, wp_itRng, wp_itEnum, wp_itZip, wp_lstRng, wp_tupRng, wp_part_none, wp_part_some, wp_mSl, wp_put_nm, wp_put_tup, wp_putAll_nil, wp_putAll_cons, wp_sNx, wp_sSet, wp_sPut, wp_temps_nil, wp_temps_cons, wp_setAll_nil, wp_setAll_cons, wp_sPar, wp_sDrop, wp_sRet, wp_sIf, wp_sFor, wp_sItem, wp_sApp, wp_sIns, wp_turn1, dat_fz, dat_ow, truth_int, truth_bool, truth_list, truth_tup, asBool_bool, intOf_int, seqOf_list, seqOf_tup, add_int, add_tup, add_list, sub_int, mul_int, mul_tup, mul_list, mod_int, fdiv_int, neg_int, lt_int, le_int, gt_int, ge_int, eq_int, ne_int, is_non, isnot_non, isNon, sl_list, sl_tup, len_list, len_tup, int_int, abs_int, max_2, max_3, min_2, min_3, tuple_list, tuple_tup, list_list, list_tup, app_D, ins_D, oIx_list, oIx_tup, getAt_0, getAt_1, getAt_2, getAt_3, putAt_0, putAt_1, putAt_2, ite_and, if_true, if_false, Bool.false_eq_true, ↓reduceIte, List.getElem?_cons_zero, List.getElem?_cons_succ, List.set_cons_zero, List.set_cons_succ, List.length_cons, List.length_nil, List.length_set, isOw_ow, isOw_fz, isOw_none, Nat.reduceAdd, Nat.reduceLT, Nat.reduceEqDiff, Nat.reduceSub, Int.reduceLT, Int.reduceLE, true_and, and_true, List.map_cons, List.map_nil, List.append_nil, List.nil_append, List.cons_append, List.replicate, wipeR, restore, noOw, List.all_cons, List.all_nil, Bool.not_false, Bool.not_true, Bool.and_true, Bool.and_self, szOk, Nat.reduceLeDiff, Option.getD_some, Option.getD_none, decide_eq_true_eq, Nat.zero_add, out0, List.length_map]
  refine ⟨rfl, (is_told_ok (m := m) t.nil gf.2.2.2.2.1.symm gf.2.2.2.2.2.1 (by omega) gf.2.1 gf.2.2.1 gf.2.2.2.1).mono ?_⟩
  rintro _ _ rfl
  simp -implicitDefEqProofs only [wp_bnd, wp_ret, wp_lift, wpV_some, wpV_none, wpV_ite, wpV_map, wp_stop, wp_ite, wp_mC, wp_mV, wp_mMove, wp_peek, wp_setS, wp_chk, wp_chg', wp_mCall, wp_mCallR, wp_sAug, wp_sAugI, wp_sSeq, wp_mComp, wp_run_nm, wp_run_ex, wp_get_nm, wp_get_ex, wp_mUn, wp_mBin, wp_runs_nil, wp_runs_cons, wp_gets_nil, wp_gets_cons, wp_mFn, wp_it_nil, wp_it_one, wp_it_star, wp_mTup, wp_mLst, wp_mT, wp_mNot, wp_mAnd, wp_mOr, wp_mBl, wp_asT, wp_mAndV, wp_mOrV, wp_mNotB, wp_mIf, wp_mYes, wp_itSeq, wp_itRng, wp_itEnum, wp_itZip, wp_lstRng, wp_tupRng, wp_part_none, wp_part_some, wp_mSl, wp_put_nm, wp_put_tup, wp_putAll_nil, wp_putAll_cons, wp_sNx, wp_sSet, wp_sPut, wp_temps_nil, wp_temps_cons, wp_setAll_nil, wp_setAll_cons, wp_sPar, wp_sDrop, wp_sRet, wp_sIf, wp_sFor, wp_sItem, wp_sApp, wp_sIns, wp_turn1, dat_fz, dat_ow, truth_int, truth_bool, truth_list, truth_tup, asBool_bool, intOf_int, seqOf_list, seqOf_tup, add_int, add_tup, add_list, sub_int, mul_int, mul_tup, mul_list, mod_int, fdiv_int, neg_int, lt_int, le_int, gt_int, ge_int, eq_int, ne_int, is_non, isnot_non, isNon, sl_list, sl_tup, len_list, len_tup, int_int, abs_int, max_2, max_3, min_2, min_3, tuple_list, tuple_tup, list_list, list_tup, app_D, ins_D, oIx_list, oIx_tup, getAt_0, getAt_1, getAt_2, getAt_3, putAt_0, putAt_1, putAt_2, ite_and, if_true, if_false, Bool.false_eq_true, ↓reduceIte, List.getElem?_cons_zero, List.getElem?_cons_succ, List.set_cons_zero, List.set_cons_succ, List.length_cons, List.length_nil, List.length_set, isOw_ow, isOw_fz, isOw_none, Nat.reduceAdd, Nat.reduceLT, Nat.reduceEqDiff, Nat.reduceSub, Int.reduceLT, Int.reduceLE, true_and, and_true, List.map_cons, List.map_nil, List.append_nil, List.nil_append, List.cons_append, List.replicate, wipeR, restore, noOw, List.all_cons, List.all_nil, Bool.not_false, Bool.not_true, Bool.and_true, Bool.and_self, szOk, Nat.reduceLeDiff, Option.getD_some, Option.getD_none, decide_eq_true_eq, Nat.zero_add, out0, List.length_map]
  exact ⟨b7, _, _, _, _, _, hb7, rfl⟩
theorem law_true (ns : List Int) (_ : ns.length ≤ 63) : ∃ o, fnOf d_law.N.length m_law [.fz (.list (ns.map .int))] = .ok (.fz (.bool true)) o := by
  have nine : rngOf [.int 9] = _ := rng_one (n := 9) (by omega)
  have h : wpF (fnOf 8 m_law [.fz (.list (ns.map .int))]) fun v _ => v = .fz (.bool true) := by
    rw [wpF_fnOf]
    unfold m_law
    simp -implicitDefEqProofs only [wp_bnd, wp_ret, wp_lift, wpV_some, wpV_none, wpV_ite, wpV_map, wp_stop, wp_ite, wp_mC, wp_mV, wp_mMove, wp_peek, wp_setS, wp_chk, wp_chg', wp_mCall, wp_mCallR, wp_sAug, wp_sAugI, wp_sSeq, wp_mComp, wp_run_nm, wp_run_ex, wp_get_nm, wp_get_ex, wp_mUn, wp_mBin, wp_runs_nil, wp_runs_cons, wp_gets_nil, wp_gets_cons, wp_mFn, wp_it_nil, wp_it_one, wp_it_star, wp_mTup, wp_mLst, wp_mT, wp_mNot, wp_mAnd, wp_mOr, wp_mBl, wp_asT, wp_mAndV, wp_mOrV, wp_mNotB, wp_mIf, wp_mYes, wp_itSeq, wp_itRng, wp_itEnum, wp_itZip, wp_lstRng, wp_tupRng, wp_part_none, wp_part_some, wp_mSl, wp_put_nm, wp_put_tup, wp_putAll_nil, wp_putAll_cons, wp_sNx, wp_sSet, wp_sPut, wp_temps_nil, wp_temps_cons, wp_setAll_nil, wp_setAll_cons, wp_sPar, wp_sDrop, wp_sRet, wp_sIf, wp_sFor, wp_sItem, wp_sApp, wp_sIns, wp_turn1, dat_fz, dat_ow, truth_int, truth_bool, truth_list, truth_tup, asBool_bool, intOf_int, seqOf_list, seqOf_tup, add_int, add_tup, add_list, sub_int, mul_int, mul_tup, mul_list, mod_int, fdiv_int, neg_int, lt_int, le_int, gt_int, ge_int, eq_int, ne_int, is_non, isnot_non, isNon, sl_list, sl_tup, len_list, len_tup, int_int, abs_int, max_2, max_3, min_2, min_3, tuple_list, tuple_tup, list_list, list_tup, app_D, ins_D, oIx_list, oIx_tup, getAt_0, getAt_1, getAt_2, getAt_3, putAt_0, putAt_1, putAt_2, ite_and, if_true, if_false, Bool.false_eq_true, ↓reduceIte, List.getElem?_cons_zero, List.getElem?_cons_succ, List.set_cons_zero, List.set_cons_succ, List.length_cons, List.length_nil, List.length_set, isOw_ow, isOw_fz, isOw_none, Nat.reduceAdd, Nat.reduceLT, Nat.reduceEqDiff, Nat.reduceSub, Int.reduceLT, Int.reduceLE, true_and, and_true, List.map_cons, List.map_nil, List.append_nil, List.nil_append, List.cons_append, List.replicate, wipeR, restore, noOw, List.all_cons, List.all_nil, Bool.not_false, Bool.not_true, Bool.and_true, Bool.and_self, szOk, Nat.reduceLeDiff, Option.getD_some, Option.getD_none, decide_eq_true_eq, Nat.zero_add, out0, List.length_map]
    refine ⟨rfl, (bag_ok ns).mono ?_⟩
    rintro _ _ ⟨b, rfl, hb⟩
    simp -implicitDefEqProofs only [wp_bnd, wp_ret, wp_lift, wpV_some, wpV_none, wpV_ite, wpV_map, wp_stop, wp_ite, wp_mC, wp_mV, wp_mMove, wp_peek, wp_setS, wp_chk, wp_chg', wp_mCall, wp_mCallR, wp_sAug, wp_sAugI, wp_sSeq, wp_mComp, wp_run_nm, wp_run_ex, wp_get_nm, wp_get_ex, wp_mUn, wp_mBin, wp_runs_nil, wp_runs_cons, wp_gets_nil, wp_gets_cons, wp_mFn, wp_it_nil, wp_it_one, wp_it_star, wp_mTup, wp_mLst, wp_mT, wp_mNot, wp_mAnd, wp_mOr, wp_mBl, wp_asT, wp_mAndV, wp_mOrV, wp_mNotB, wp_mIf, wp_mYes, wp_itSeq, wp_itRng, wp_itEnum, wp_itZip, wp_lstRng, wp_tupRng, wp_part_none, wp_part_some, wp_mSl, wp_put_nm, wp_put_tup, wp_putAll_nil, wp_putAll_cons, wp_sNx, wp_sSet, wp_sPut, wp_temps_nil, wp_temps_cons, wp_setAll_nil, wp_setAll_cons, wp_sPar, wp_sDrop, wp_sRet, wp_sIf, wp_sFor, wp_sItem, wp_sApp, wp_sIns, wp_turn1, dat_fz, dat_ow, truth_int, truth_bool, truth_list, truth_tup, asBool_bool, intOf_int, seqOf_list, seqOf_tup, add_int, add_tup, add_list, sub_int, mul_int, mul_tup, mul_list, mod_int, fdiv_int, neg_int, lt_int, le_int, gt_int, ge_int, eq_int, ne_int, is_non, isnot_non, isNon, sl_list, sl_tup, len_list, len_tup, int_int, abs_int, max_2, max_3, min_2, min_3, tuple_list, tuple_tup, list_list, list_tup, app_D, ins_D, oIx_list, oIx_tup, getAt_0, getAt_1, getAt_2, getAt_3, putAt_0, putAt_1, putAt_2, ite_and, if_true, if_false, Bool.false_eq_true, ↓reduceIte, List.getElem?_cons_zero, List.getElem?_cons_succ, List.set_cons_zero, List.set_cons_succ, List.length_cons, List.length_nil, List.length_set, isOw_ow, isOw_fz, isOw_none, Nat.reduceAdd, Nat.reduceLT, Nat.reduceEqDiff, Nat.reduceSub, Int.reduceLT, Int.reduceLE, true_and, and_true, List.map_cons, List.map_nil, List.append_nil, List.nil_append, List.cons_append, List.replicate, wipeR, restore, noOw, List.all_cons, List.all_nil, Bool.not_false, Bool.not_true, Bool.and_true, Bool.and_self, szOk, Nat.reduceLeDiff, Option.getD_some, Option.getD_none, decide_eq_true_eq, Nat.zero_add, out0, List.length_map, nine]
    refine wp_up (fun j ρ => ∃ b' : Bag, ∃ x2 x3 x4 x5 x6 x7, b'.cells.length ≤ 1000 ∧ ρ = [some (.fz (.list (ns.map .int))), some (.ow b'.d), x2, x3, x4, x5, x6, x7]) (fun j ρ hj h => ?_) (fun ρ h => ?_) ⟨b, none, none, none, none, none, none, by omega, rfl⟩
    · obtain ⟨b', x2, x3, x4, x5, x6, x7, hb', rfl⟩ := h
      simp -implicitDefEqProofs only [wp_bnd, wp_ret, wp_lift, wpV_some, wpV_none, wpV_ite, wpV_map, wp_stop, wp_ite, wp_mC, wp_mV, wp_mMove, wp_peek, wp_setS, wp_chk, wp_chg', wp_mCall, wp_mCallR, wp_sAug, wp_sAugI, wp_sSeq, wp_mComp, wp_run_nm, wp_run_ex, wp_get_nm, wp_get_ex, wp_mUn, wp_mBin, wp_runs_nil, wp_runs_cons, wp_gets_nil, wp_gets_cons, wp_mFn, wp_it_nil, wp_it_one, wp_it_star, wp_mTup, wp_mLst, wp_mT, wp_mNot, wp_mAnd, wp_mOr, wp_mBl, wp_asT, wp_mAndV, wp_mOrV, wp_mNotB, wp_mIf, wp_mYes, wp_itSeq, wp_itRng, wp_itEnum, wp_itZip, wp_lstRng, wp_tupRng, wp_part_none, wp_part_some, wp_mSl, wp_put_nm, wp_put_tup, wp_putAll_nil, wp_putAll_cons, wp_sNx, wp_sSet, wp_sPut, wp_temps_nil, wp_temps_cons, wp_setAll_nil, wp_setAll_cons, wp_sPar, wp_sDrop, wp_sRet, wp_sIf, wp_sFor, wp_sItem, wp_sApp, wp_sIns, wp_turn1, dat_fz, dat_ow, truth_int, truth_bool, truth_list, truth_tup, asBool_bool, intOf_int, seqOf_list, seqOf_tup, add_int, add_tup, add_list, sub_int, mul_int, mul_tup, mul_list, mod_int, fdiv_int, neg_int, lt_int, le_int, gt_int, ge_int, eq_int, ne_int, is_non, isnot_non, isNon, sl_list, sl_tup, len_list, len_tup, int_int, abs_int, max_2, max_3, min_2, min_3, tuple_list, tuple_tup, list_list, list_tup, app_D, ins_D, oIx_list, oIx_tup, getAt_0, getAt_1, getAt_2, getAt_3, putAt_0, putAt_1, putAt_2, ite_and, if_true, if_false, Bool.false_eq_true, ↓reduceIte, List.getElem?_cons_zero, List.getElem?_cons_succ, List.set_cons_zero, List.set_cons_succ, List.length_cons, List.length_nil, List.length_set, isOw_ow, isOw_fz, isOw_none, Nat.reduceAdd, Nat.reduceLT, Nat.reduceEqDiff, Nat.reduceSub, Int.reduceLT, Int.reduceLE, true_and, and_true, List.map_cons, List.map_nil, List.append_nil, List.nil_append, List.cons_append, List.replicate, wipeR, restore, noOw, List.all_cons, List.all_nil, Bool.not_false, Bool.not_true, Bool.and_true, Bool.and_self, szOk, Nat.reduceLeDiff, Option.getD_some, Option.getD_none, decide_eq_true_eq, Nat.zero_add, out0, List.length_map]
      refine (turn_law hb').mono ?_
      rintro _ _ ⟨rfl, b2, x3, x4, x5, x6, x7, hb2, rfl⟩
      exact ⟨b2, _, x3, x4, x5, x6, x7, hb2, rfl⟩
    · obtain ⟨b', x2, x3, x4, x5, x6, x7, hb', rfl⟩ := h
      simp -implicitDefEqProofs only [wp_bnd, wp_ret, wp_lift, wpV_some, wpV_none, wpV_ite, wpV_map, wp_stop, wp_ite, wp_mC, wp_mV, wp_mMove, wp_peek, wp_setS, wp_chk, wp_chg', wp_mCall, wp_mCallR, wp_sAug, wp_sAugI, wp_sSeq, wp_mComp, wp_run_nm, wp_run_ex, wp_get_nm, wp_get_ex, wp_mUn, wp_mBin, wp_runs_nil, wp_runs_cons, wp_gets_nil, wp_gets_cons, wp_mFn, wp_it_nil, wp_it_one, wp_it_star, wp_mTup, wp_mLst, wp_mT, wp_mNot, wp_mAnd, wp_mOr, wp_mBl, wp_asT, wp_mAndV, wp_mOrV, wp_mNotB, wp_mIf, wp_mYes, wp_itSeq, wp_itRng, wp_itEnum, wp_itZip, wp_lstRng, wp_tupRng, wp_part_none, wp_part_some, wp_mSl, wp_put_nm, wp_put_tup, wp_putAll_nil, wp_putAll_cons, wp_sNx, wp_sSet, wp_sPut, wp_temps_nil, wp_temps_cons, wp_setAll_nil, wp_setAll_cons, wp_sPar, wp_sDrop, wp_sRet, wp_sIf, wp_sFor, wp_sItem, wp_sApp, wp_sIns, wp_turn1, dat_fz, dat_ow, truth_int, truth_bool, truth_list, truth_tup, asBool_bool, intOf_int, seqOf_list, seqOf_tup, add_int, add_tup, add_list, sub_int, mul_int, mul_tup, mul_list, mod_int, fdiv_int, neg_int, lt_int, le_int, gt_int, ge_int, eq_int, ne_int, is_non, isnot_non, isNon, sl_list, sl_tup, len_list, len_tup, int_int, abs_int, max_2, max_3, min_2, min_3, tuple_list, tuple_tup, list_list, list_tup, app_D, ins_D, oIx_list, oIx_tup, getAt_0, getAt_1, getAt_2, getAt_3, putAt_0, putAt_1, putAt_2, ite_and, if_true, if_false, Bool.false_eq_true, ↓reduceIte, List.getElem?_cons_zero, List.getElem?_cons_succ, List.set_cons_zero, List.set_cons_succ, List.length_cons, List.length_nil, List.length_set, isOw_ow, isOw_fz, isOw_none, Nat.reduceAdd, Nat.reduceLT, Nat.reduceEqDiff, Nat.reduceSub, Int.reduceLT, Int.reduceLE, true_and, and_true, List.map_cons, List.map_nil, List.append_nil, List.nil_append, List.cons_append, List.replicate, wipeR, restore, noOw, List.all_cons, List.all_nil, Bool.not_false, Bool.not_true, Bool.and_true, Bool.and_self, szOk, Nat.reduceLeDiff, Option.getD_some, Option.getD_none, decide_eq_true_eq, Nat.zero_add, out0, List.length_map]
  obtain ⟨v, o, e, rfl⟩ := wpF_iff.mp h
  exact ⟨o, e⟩
end K11

open PySem PySem.W
open PySem.Calls PyProof.Rows
set_option maxHeartbeats 0 in
theorem PySem.Challenge.cw_floorkeepers_k11_least_tight_words_holds : PySem.Challenge.rw_floorkeepers_k11_least_tight_words.Holds := by
  w_on; o_law
  refine HandSHeadRun.head_any (r := K11.Rw) (q := view K11.Rw.prog [21]) (H := K11.hkk) (ob := K11.hob) (M := 2000) (loose := K11.loose) (d := HandSHeadRun.topDef K11.Rw.prog 21) (kwd := []) K11.hob_eq
    (by kernel_rfl) (fun s => by kernel_rfl) K11.hrun (by kernel_rfl) (by kernel_rfl) (by kernel_rfl) (by rfl) (by first | assumption | decide +kernel) (by decide +kernel) ⟨rfl, rfl, rfl, rfl, rfl, by decide +kernel⟩ ?hw ?hc
  case hw => w_witness2
  case hc =>
    exact FK.law_walk (l := PySem.Challenge.rw_floorkeepers_k11_least_tight_words) (n := 63) (N := 40) (x := "_law_script") (ds := K11.ds) (dl := K11.d_law) (ml := K11.m_law) rfl (by decide) (by kernel_rfl) ⟨rfl, by decide, by decide⟩ K11.reads (by kernel_rfl) rfl rfl K11.law_true

