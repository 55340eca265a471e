import PyProof.Rows.All
import PyProof.Rows.Walk
import PyProof.EqLayable
import HandS.ForMost
import HandS.EndBits
import HandS.Gcd
import HandS.Wide
import HandS.IsInst
import HandS.TupAny
import HandS.SortInts
import HandS.TupMul
import HandS.TupLe
import HandS.Deep
import HandS.Iter
import HandS.Style
import HandS.Conv
import HandS.Small
import HandS.More
import HandS.Dict
import KE.KSortTupG
import HandS.TupSets
import HandS.SetFor
import HandS.TryOnly
import KE.SortData
import KE.IntBitsLaws
import PySem.Challenge.RW_nosurebet_k52_rings_of_dice
set_option Elab.async false
set_option linter.all false
set_option maxRecDepth 100000
set_option maxHeartbeats 2000000
/-! Py0: slots and the meanings of the pieces of a text, without a heap. Values are PyData. -/
namespace Py
open PySem

abbrev PV := PyData
abbrev Key := Sum Int Str

/-- what may be changed -/
inductive Ob where
  | lst (xs : List PV) | dct (kvs : List (Key × PV))
/-- what a name holds: a value, an object of its own, a caller's object -/
inductive Sl where
  | val (v : PV) | own (o : Ob) | ref (o : Ob) | lck (kvs : List (Key × PV))
/-- what an expression gives: a value, a new object, the object of a name -/
inductive R where
  | val (v : PV) | new (o : Ob) | bor (i : Nat)
/-- what a result holds when it is looked at -/
inductive Ct where
  | pv (v : PV) | ob (o : Ob)

abbrev Env := List (Option Sl)
abbrev M := Env → Option (R × Env)
abbrev MT := Env → Option (Bool × Env)
inductive Fl where
  | nx | rt (r : R) | bk | ct
abbrev SM := Env → Option (Fl × Env)
/-- a target, a row of targets -/
abbrev MG := R → Env → Option Env
/-- what a for walks: the items, and the environment while it walks -/
abbrev MI := Env → Option (List PV × Env)
abbrev ML := Env → Option (List PV × Env)

def line : Nat := 16777216

def Ct.lst? : Ct → Option (List PV)
  | .pv (.list xs) => some xs
  | .ob (.lst xs) => some xs
  | _ => none
def Ct.tup? : Ct → Option (List PV)
  | .pv (.tuple xs) => some xs
  | _ => none
def Ct.seq? : Ct → Option (List PV)
  | .pv (.list xs) => some xs
  | .pv (.tuple xs) => some xs
  | .ob (.lst xs) => some xs
  | _ => none
def Sl.ct : Sl → Ct
  | .val v => .pv v
  | .own o => .ob o
  | .ref o => .ob o
  | .lck kvs => .ob (.dct kvs)
def get (ρ : Env) (i : Nat) : Option Sl := (ρ[i]?).getD none
def look : R → Env → Option Ct
  | .val v, _ => some (.pv v)
  | .new o, _ => some (.ob o)
  | .bor i, ρ => (get ρ i).map Sl.ct
/-- made a value that is never changed again -/
def frzO : Ob → Option PV
  | .lst xs => some (.list xs)
  | .dct _ => none
def frz : R → Env → Option (PV × Env)
  | .val v, ρ => some (v, ρ)
  | .new o, ρ => (frzO o).map fun v => (v, ρ)
  | .bor i, ρ => match get ρ i with
    | some (.val v) => some (v, ρ)
    | some (.own o) => (frzO o).map fun v => (v, ρ.set i (some (.val v)))
    | _ => none
def isRef : Option Sl → Bool
  | some (.ref _) => true
  | some (.lck _) => true
  | _ => false
/-- stored at a name that holds no caller's object -/
def put (i : Nat) (s : Option Sl) (ρ : Env) : Option Env := if isRef (get ρ i) then none else some (ρ.set i s)
def forget : List Nat → Env → Env
  | [], ρ => ρ
  | i :: r, ρ => if isRef (get (forget r ρ) i) then forget r ρ else (forget r ρ).set i none

/-! ### expressions -/
def mC (v : PV) : M := fun ρ => some (.val v, ρ)
def mVar (i : Nat) : M := fun ρ => match get ρ i with
  | some (.val v) => some (.val v, ρ)
  | some (.own _) => some (.bor i, ρ)
  | some (.ref _) => some (.bor i, ρ)
  | some (.lck _) => some (.bor i, ρ)
  | none => none
def mOp (f : Ct → Ct → Option R) (a b : M) : M := fun ρ =>
  (a ρ).bind fun x => (b x.2).bind fun y => (look x.1 y.2).bind fun cx => (look y.1 y.2).bind fun cy => (f cx cy).map fun z => (z, y.2)
def mUn (f : Ct → Option R) (a : M) : M := fun ρ =>
  (a ρ).bind fun x => (look x.1 x.2).bind fun cx => (f cx).map fun z => (z, x.2)
def boolOf : Ct → Option Bool
  | .pv (.bool b) => some b
  | _ => none
/-- a test by its value, a bool -/
def mB (a : M) : MT := fun ρ => (a ρ).bind fun x => (look x.1 x.2).bind fun cx => (boolOf cx).map fun b => (b, x.2)
def truOf : Ct → Option Bool
  | .pv .none => some false
  | .pv (.bool b) => some b
  | .pv (.int i) => some (i != 0)
  | .pv (.tuple xs) => some !xs.isEmpty
  | .pv (.list xs) => some !xs.isEmpty
  | .ob (.lst xs) => some !xs.isEmpty
  | _ => none
/-- a test by its value's truth -/
def mTru (a : M) : MT := fun ρ => (a ρ).bind fun x => (look x.1 x.2).bind fun cx => (truOf cx).map fun b => (b, x.2)
def mAnd (a b : MT) : MT := fun ρ => (a ρ).bind fun x => if x.1 then b x.2 else some (false, x.2)
def mOr (a b : MT) : MT := fun ρ => (a ρ).bind fun x => if x.1 then some (true, x.2) else b x.2
def mNot (a : MT) : MT := fun ρ => (a ρ).bind fun x => some (!x.1, x.2)
/-- and, or, not as values (of bools) -/
def mAndV (a b : M) : M := fun ρ => (a ρ).bind fun x => (look x.1 x.2).bind fun cx => (boolOf cx).bind fun k => if k then b x.2 else some (.val (.bool false), x.2)
def mOrV (a b : M) : M := fun ρ => (a ρ).bind fun x => (look x.1 x.2).bind fun cx => (boolOf cx).bind fun k => if k then some (.val (.bool true), x.2) else b x.2
def mNotV (a : M) : M := fun ρ => (a ρ).bind fun x => (look x.1 x.2).bind fun cx => (boolOf cx).bind fun k => some (.val (.bool (!k)), x.2)
def mIfE (t : MT) (a b : M) : M := fun ρ => (t ρ).bind fun x => if x.1 then a x.2 else b x.2
/-- a op b op' c, of values -/
def mChain (f g : Ct → Ct → Option R) (a b c : M) : M := fun ρ =>
  (a ρ).bind fun x => (b x.2).bind fun y => (look x.1 y.2).bind fun cx => (look y.1 y.2).bind fun cy => (f cx cy).bind fun z => (look z y.2).bind fun cz => (boolOf cz).bind fun k =>
    if k then (c y.2).bind fun w => (look y.1 w.2).bind fun cy => (look w.1 w.2).bind fun cw => (g cy cw).map fun z => (z, w.2) else some (.val (.bool false), y.2)
/-- a name's list given away as a value -/
def mFrz (a : M) : M := fun ρ => (a ρ).bind fun x => (frz x.1 x.2).map fun v => (.val v.1, v.2)
def lNil : ML := fun ρ => some ([], ρ)
def lCons (a : M) (r : ML) : ML := fun ρ => (a ρ).bind fun x => (frz x.1 x.2).bind fun v => (r v.2).map fun vs => (v.1 :: vs.1, vs.2)
def mTup (l : ML) : M := fun ρ => (l ρ).bind fun vs => if vs.1.length ≤ line then some (.val (.tuple vs.1), vs.2) else none
def mLst (l : ML) : M := fun ρ => (l ρ).bind fun vs => if vs.1.length ≤ line then some (.new (.lst vs.1), vs.2) else none
def mDct0 : M := fun ρ => some (.new (.dct []), ρ)

/-! ### operators by content -/
def fAdd : Ct → Ct → Option R
  | .pv (.int a), .pv (.int b) => some (.val (.int (a + b)))
  | .pv (.str a), .pv (.str b) => if a.length + b.length ≤ line then some (.val (.str (a ++ b))) else none
  | .pv (.tuple xs), .pv (.tuple ys) => if xs.length + ys.length ≤ line then some (.val (.tuple (xs ++ ys))) else none
  | .ob (.lst xs), .ob (.lst ys) => if xs.length + ys.length ≤ line then some (.new (.lst (xs ++ ys))) else none
  | _, _ => none
def fSub : Ct → Ct → Option R
  | .pv (.int a), .pv (.int b) => some (.val (.int (a - b)))
  | _, _ => none
/-- the bits of both factors together within the line -/
def mulOk (a b : Int) : Bool := decide (a.natAbs.log2 + b.natAbs.log2 < 100000000)
def fMul : Ct → Ct → Option R
  | .pv (.int a), .pv (.int b) => if mulOk a b then some (.val (.int (a * b))) else none
  | .pv (.tuple xs), .pv (.int k) => if -(2 ^ 62) < k ∧ k ≤ 1000 ∧ xs.length ≤ 1000 then some (.val (.tuple (List.replicate k.toNat xs).flatten)) else none
  | .ob (.lst xs), .pv (.int k) => if xs.length * k.toNat ≤ line ∧ k < 2 ^ 62 ∧ -(2 ^ 62) < k then some (.new (.lst (List.replicate k.toNat xs).flatten)) else none
  | _, _ => none
def fDiv : Ct → Ct → Option R
  | .pv (.int a), .pv (.int b) => if b = 0 then none else some (.val (.int (a.fdiv b)))
  | _, _ => none
def fMod : Ct → Ct → Option R
  | .pv (.int a), .pv (.int b) => if b = 0 then none else some (.val (.int (a.fmod b)))
  | _, _ => none
def fPow : Ct → Ct → Option R
  | .pv (.int a), .pv (.int b) => if 0 ≤ b ∧ b ≤ 1000000 ∧ a.natAbs < 2 ^ 64 then some (.val (.int (a ^ b.toNat))) else none
  | _, _ => none
def fNeg : Ct → Option R
  | .pv (.int a) => some (.val (.int (-a)))
  | _ => none
def cI (p : Int → Int → Bool) : Ct → Ct → Option R
  | .pv (.int a), .pv (.int b) => some (.val (.bool (p a b)))
  | _, _ => none
def fLt := cI fun a b => decide (a < b)
def fLe := cI fun a b => decide (a ≤ b)
def fGt := cI fun a b => decide (b < a)
def fGe := cI fun a b => decide (b ≤ a)
def eqD (neg : Bool) : Ct → Ct → Option R
  | .pv (.int a), .pv (.int b) => some (.val (.bool (neg ^^ decide (a = b))))
  | .pv (.bool a), .pv (.bool b) => some (.val (.bool (neg ^^ (a == b))))
  | .pv (.str a), .pv (.str b) => some (.val (.bool (neg ^^ decide (a = b))))
  | .pv d, .pv e => if SeqAt.shaped d = true ∧ SeqAt.shaped e = true then some (.val (.bool (neg ^^ PyData.eqv d e))) else none
  | _, _ => none
def fEq := eqD false
def fNe := eqD true
def isNone : PV → Bool
  | .none => true
  | _ => false
/-- is None (the right side None) -/
def fIs (neg : Bool) : Ct → Ct → Option R
  | .pv v, .pv .none => some (.val (.bool (neg ^^ isNone v)))
  | .ob _, .pv .none => some (.val (.bool neg))
  | _, _ => none
/-- the place of an index -/
def ixN (n : Nat) (i : Int) : Option Nat := if 0 ≤ i then (if i < n then some i.toNat else none) else if -(n : Int) ≤ i then some (i + n).toNat else none
def atI (xs : List PV) (i : Int) : Option PV := (ixN xs.length i).bind fun j => xs[j]?
def keyOf : PV → Option Key
  | .int i => some (.inl i)
  | .str x => some (.inr x)
  | _ => none
def dGet (kvs : List (Key × PV)) (k : Key) : Option PV := (kvs.find? fun kv => decide (kv.1 = k)).map (·.2)
def dPut (kvs : List (Key × PV)) (k : Key) (v : PV) : List (Key × PV) :=
  if (kvs.find? fun kv => decide (kv.1 = k)).isSome then kvs.map fun kv => if kv.1 = k then (k, v) else kv else kvs ++ [(k, v)]
def fIx : Ct → Ct → Option R
  | .pv (.tuple xs), .pv (.int i) => (atI xs i).map .val
  | .pv (.list xs), .pv (.int i) => (atI xs i).map .val
  | .ob (.lst xs), .pv (.int i) => (atI xs i).map .val
  | .pv (.str x), .pv (.int i) => if x.length ≤ line then ((ixN x.length i).bind fun j => x.cps[j]?).map fun c => .val (.str ⟨#[c]⟩) else none
  | _, _ => none
/-! slices -/
def sIx (n d : Nat) : Option Int → Nat
  | none => d
  | some i => if i < 0 then (i + n).toNat else min i.toNat n
def cut {α : Type} (xs : List α) (lo hi : Option Int) : List α := (xs.drop (sIx xs.length 0 lo)).take (sIx xs.length xs.length hi - sIx xs.length 0 lo)
abbrev MO := Env → Option (Option Int × Env)
def oNone : MO := fun ρ => some (none, ρ)
def intOf : Ct → Option Int
  | .pv (.int i) => some i
  | _ => none
def oSome (a : M) : MO := fun ρ => (a ρ).bind fun x => (look x.1 x.2).bind fun c => (intOf c).map fun i => (some i, x.2)
def fSl (lo hi : Option Int) : Ct → Option R
  | .pv (.tuple xs) => some (.val (.tuple (cut xs lo hi)))
  | .pv (.list xs) => some (.new (.lst (cut xs lo hi)))
  | .ob (.lst xs) => some (.new (.lst (cut xs lo hi)))
  | _ => none
def mSl (a : M) (l h : MO) : M := fun ρ => (a ρ).bind fun x => (l x.2).bind fun i => (h i.2).bind fun j => (look x.1 j.2).bind fun c => (fSl i.1 j.1 c).map fun z => (z, j.2)

/-! ### built-ins by content -/
def fLen : Ct → Option R
  | .pv (.tuple xs) => some (.val (.int xs.length))
  | .pv (.list xs) => some (.val (.int xs.length))
  | .pv (.str x) => if x.length ≤ line then some (.val (.int x.length)) else none
  | .ob (.lst xs) => some (.val (.int xs.length))
  | _ => none
def fInt : Ct → Option R
  | .pv (.int i) => some (.val (.int i))
  | .pv (.bool b) => some (.val (.int (if b then 1 else 0)))
  | _ => none
def fAbs : Ct → Option R
  | .pv (.int i) => some (.val (.int i.natAbs))
  | _ => none
def fMin2 : Ct → Ct → Option R
  | .pv (.int i), .pv (.int j) => some (.val (.int (if j < i then j else i)))
  | _, _ => none
def fMax2 : Ct → Ct → Option R
  | .pv (.int i), .pv (.int j) => some (.val (.int (if j > i then j else i)))
  | _, _ => none
def fGcd : Ct → Ct → Option R
  | .pv (.int i), .pv (.int j) => some (.val (.int (Int.gcd i j)))
  | _, _ => none
def fTuple : Ct → Option R
  | .pv (.tuple xs) => some (.val (.tuple xs))
  | .pv (.list xs) => some (.val (.tuple xs))
  | .ob (.lst xs) => some (.val (.tuple xs))
  | _ => none
def fList : Ct → Option R
  | .pv (.tuple xs) => some (.new (.lst xs))
  | .pv (.list xs) => some (.new (.lst xs))
  | .ob (.lst xs) => some (.new (.lst xs))
  | _ => none
def intV? : PV → Option Int
  | .int i => some i
  | _ => none
def boolV? : PV → Option Bool
  | .bool b => some b
  | _ => none
def ints? (xs : List PV) : Option (List Int) := xs.mapM intV?
def bools? (xs : List PV) : Option (List Bool) := xs.mapM boolV?
def fSum (c : Ct) : Option R := c.lst?.bind fun xs => (ints? xs).map fun ns => .val (.int ns.sum)
def fAll (c : Ct) : Option R := c.lst?.bind fun xs => (bools? xs).map fun bs => .val (.bool (bs.all id))
def fAny (c : Ct) : Option R := c.lst?.bind fun xs => (bools? xs).map fun bs => .val (.bool (bs.any id))
def maxL : List Int → Int
  | [] => 0
  | x :: r => r.foldl max x
def minL : List Int → Int
  | [] => 0
  | x :: r => r.foldl min x
def fMax (c : Ct) : Option R := c.lst?.bind fun xs => (ints? xs).bind fun ns => if ns = [] then none else some (.val (.int (maxL ns)))
def fMin (c : Ct) : Option R := c.lst?.bind fun xs => (ints? xs).bind fun ns => if ns = [] then none else some (.val (.int (minL ns)))
def isort (ns : List Int) : List Int := ns.mergeSort fun a b => decide (a ≤ b)
def fSorted (c : Ct) : Option R := c.lst?.bind fun xs => (ints? xs).map fun ns => .new (.lst ((isort ns).map .int))
/-- += of ints and texts -/
def fIAdd : Ct → Ct → Option R
  | .pv (.int a), .pv (.int b) => some (.val (.int (a + b)))
  | .pv (.str a), .pv (.str b) => if a.length + b.length ≤ line then some (.val (.str (a ++ b))) else none
  | _, _ => none
def fMulI : Ct → Ct → Option R
  | .pv (.int a), .pv (.int b) => if mulOk a b then some (.val (.int (a * b))) else none
  | _, _ => none
/-- the types that isinstance is asked of -/
inductive Ty where
  | bool | int | str | tuple
def isTy : Ty → PV → Bool
  | .bool, .bool _ => true
  | .int, .int _ => true
  | .int, .bool _ => true
  | .str, .str _ => true
  | .tuple, .tuple _ => true
  | _, _ => false
def fIsi (t : Ty) : Ct → Option R
  | .pv v => some (.val (.bool (isTy t v)))
  | .ob (.lst _) => some (.val (.bool false))
  | .ob (.dct _) => none

/-! ### statements -/
def sNext : SM := fun ρ => some (.nx, ρ)
def sSeq (a b : SM) : SM := fun ρ => (a ρ).bind fun x => match x.1 with
  | .nx => b x.2
  | f => some (f, x.2)
def sBrk : SM := fun ρ => some (.bk, ρ)
def sCont : SM := fun ρ => some (.ct, ρ)
def sRet (a : M) : SM := fun ρ => (a ρ).map fun x => (.rt x.1, x.2)
def sRetN : SM := fun ρ => some (.rt (.val .none), ρ)
def sIf (t : MT) (a b : SM) : SM := fun ρ => (t ρ).bind fun x => if x.1 then a x.2 else b x.2
def sExpr (a : M) : SM := fun ρ => (a ρ).map fun x => (.nx, x.2)
/-- what a name holds behind a store: a list of another name becomes a value of both -/
def gName (i : Nat) : MG := fun r ρ => match r with
  | .val v => put i (some (.val v)) ρ
  | .new o => put i (some (.own o)) ρ
  | .bor j => (frz (.bor j) ρ).bind fun v => put i (some (.val v.1)) v.2
def gNames : List Nat → List PV → Env → Option Env
  | [], [], ρ => some ρ
  | i :: is, v :: vs, ρ => (put i (some (.val v)) ρ).bind fun ρ1 => gNames is vs ρ1
  | _, _, _ => none
/-- a, b = t (a tuple) -/
def gTup (is : List Nat) : MG := fun r ρ => match r with
  | .val (.tuple xs) => gNames is xs ρ
  | _ => none
def sAsg (a : M) (g : MG) : SM := fun ρ => (a ρ).bind fun x => (g x.1 x.2).map fun ρ' => (.nx, ρ')
def sPar (i j : Nat) (a b : M) : SM := fun ρ => (a ρ).bind fun x => (frz x.1 x.2).bind fun v => (b v.2).bind fun y => (frz y.1 y.2).bind fun w =>
  (put i (some (.val v.1)) w.2).bind fun ρ1 => (put j (some (.val w.1)) ρ1).map fun ρ2 => (.nx, ρ2)
/-- an object of a name -/
def obAt (ρ : Env) (i : Nat) : Option Ob := match get ρ i with
  | some (.own o) => some o
  | some (.ref o) => some o
  | _ => none
def lstAt (ρ : Env) (i : Nat) : Option (List PV) := match obAt ρ i with
  | some (.lst xs) => some xs
  | _ => none
def setOb (ρ : Env) (i : Nat) (o : Ob) : Env := match get ρ i with
  | some (.ref _) => ρ.set i (some (.ref o))
  | some (.lck _) => ρ.set i (some (.ref o))
  | _ => ρ.set i (some (.own o))
/-- xs.append(e) -/
def mAppend (i : Nat) (a : M) : M := fun ρ => (lstAt ρ i).bind fun _ => (a ρ).bind fun x => (frz x.1 x.2).bind fun v => (lstAt v.2 i).bind fun xs =>
  if xs.length < line then some (.val .none, setOb v.2 i (.lst (xs ++ [v.1]))) else none
/-- xs.pop() -/
def mPop (i : Nat) : M := fun ρ => (lstAt ρ i).bind fun xs => (xs.getLast?).map fun v => (.val v, setOb ρ i (.lst xs.dropLast))
/-- xs.pop(e) -/
def mPopAt (i : Nat) (a : M) : M := fun ρ => (lstAt ρ i).bind fun _ => (a ρ).bind fun x => (look x.1 x.2).bind fun c => (intOf c).bind fun k => (lstAt x.2 i).bind fun xs =>
  if -(2 ^ 62) < k ∧ k < 2 ^ 62 then (ixN xs.length k).bind fun j => (xs[j]?).map fun v => (.val v, setOb x.2 i (.lst (xs.eraseIdx j))) else none
/-- xs.reverse() -/
def mReverse (i : Nat) : M := fun ρ => (lstAt ρ i).map fun xs => (.val .none, setOb ρ i (.lst xs.reverse))
/-- xs[e] = v -/
def sSetIx (i : Nat) (e : M) (a : M) : SM := fun ρ => (a ρ).bind fun x => (frz x.1 x.2).bind fun v => (lstAt v.2 i).bind fun _ => (e v.2).bind fun y => (look y.1 y.2).bind fun c => (intOf c).bind fun k => (lstAt y.2 i).bind fun xs =>
  (ixN xs.length k).map fun j => (.nx, setOb y.2 i (.lst (xs.set j v.1)))
/-- name op= e, of values -/
def sAug (i : Nat) (f : Ct → Ct → Option R) (a : M) : SM := fun ρ => (get ρ i).bind fun s => match s with
  | .val v => (a ρ).bind fun x => (look x.1 x.2).bind fun c => (f (.pv v) c).bind fun z => match z with
    | .val w => (put i (some (.val w)) x.2).map fun ρ' => (.nx, ρ')
    | _ => none
  | _ => none
/-- xs += e, a list -/
def sAugL (i : Nat) (a : M) : SM := fun ρ => (lstAt ρ i).bind fun _ => (a ρ).bind fun x => match x.1 with
  | .new (.lst ys) => (lstAt x.2 i).bind fun xs => if xs.length + ys.length ≤ line then some (.nx, setOb x.2 i (.lst (xs ++ ys))) else none
  | _ => none

/-! ### loops -/
def iSeq (a : M) : MI := fun ρ => (a ρ).bind fun x => match x.1 with
  | .val (.list xs) => some (xs, x.2)
  | .val (.tuple xs) => some (xs, x.2)
  | .new (.lst xs) => some (xs, x.2)
  | _ => none
/-- a name's own list, which the body doesn't see -/
def iHide (i : Nat) : MI := fun ρ => (lstAt ρ i).map fun xs => (xs, ρ.set i none)
def rangeL (lo : Int) (n : Nat) : List PV := (List.range n).map fun (k : Nat) => .int (lo + (k : Int))
def iRng1 (a : M) : MI := fun ρ => (a ρ).bind fun x => (look x.1 x.2).bind fun c => (intOf c).bind fun n => if n ≤ line ∧ -(2 ^ 62) ≤ n then some (rangeL 0 n.toNat, x.2) else none
def iRng2 (a b : M) : MI := fun ρ => (a ρ).bind fun x => (look x.1 x.2).bind fun c => (intOf c).bind fun lo => (b x.2).bind fun y => (look y.1 y.2).bind fun d => (intOf d).bind fun hi =>
  if -(2 ^ 61) ≤ lo ∧ lo < 2 ^ 61 ∧ -(2 ^ 61) ≤ hi ∧ hi < 2 ^ 61 ∧ (hi - lo) ≤ line then some (rangeL lo (hi - lo).toNat, y.2) else none
def loopF (g : MG) (b : SM) : List PV → SM
  | [], ρ => some (.nx, ρ)
  | x :: xs, ρ => (g (.val x) ρ).bind fun ρ1 => (b ρ1).bind fun y => match y.1 with
    | .nx => loopF g b xs y.2
    | .ct => loopF g b xs y.2
    | .bk => some (.nx, y.2)
    | .rt r => some (.rt r, y.2)
def sFor (it : MI) (g : MG) (b : SM) : SM := fun ρ => (it ρ).bind fun xs => loopF g b xs.1 xs.2
/-- for over a name's own list: the name holds it again behind the loop -/
def sForH (i : Nat) (g : MG) (b : SM) : SM := fun ρ => (get ρ i).bind fun s => (iHide i ρ).bind fun xs => (loopF g b xs.1 xs.2).bind fun y => match get y.2 i with
  | none => some (y.1, y.2.set i (some s))
  | _ => none
def whileF (t : MT) (b : SM) : Nat → SM
  | 0, _ => none
  | n + 1, ρ => (t ρ).bind fun x => if x.1 then (b x.2).bind fun y => match y.1 with
      | .nx => whileF t b n y.2
      | .ct => whileF t b n y.2
      | .bk => some (.nx, y.2)
      | .rt r => some (.rt r, y.2)
    else some (.nx, x.2)
open Classical in
noncomputable def sWhile (t : MT) (b : SM) : SM := fun ρ => if h : ∃ n, (whileF t b n ρ).isSome = true then whileF t b h.choose ρ else none
/-- names that are not read any more -/
def sFgt (is : List Nat) (a : SM) : SM := fun ρ => (a ρ).map fun x => match x.1 with
  | .rt r => (.rt r, x.2)
  | f => (f, forget is x.2)

/-! ### comprehensions -/
def wipe (ρ : Env) : List Nat → Env
  | [] => ρ
  | i :: r => (wipe ρ r).set i none
def back (ρ0 : Env) : List Nat → Env → Env
  | [], ρ => ρ
  | i :: r, ρ => (back ρ0 r ρ).set i (get ρ0 i)
def lcF (f : PV → Env → Option (List PV × Env)) : List PV → Env → Option (List PV × Env)
  | [], ρ => some ([], ρ)
  | x :: xs, ρ => (f x ρ).bind fun y => (lcF f xs y.2).map fun z => (y.1 ++ z.1, z.2)
def tYes : MT := fun ρ => some (true, ρ)
def lcTurn (g : MG) (vs : List Nat) (t : MT) (e : M) (x : PV) (ρ : Env) : Option (List PV × Env) :=
  (g (.val x) (wipe ρ vs)).bind fun ρ1 => (t ρ1).bind fun b => if b.1 then (e b.2).bind fun r => (frz r.1 r.2).map fun v => ([v.1], v.2) else some ([], b.2)
def mLc (it : MI) (g : MG) (vs : List Nat) (t : MT) (e : M) : M := fun ρ => (it ρ).bind fun xs => if xs.1.length ≤ line then
  (lcF (lcTurn g vs t e) xs.1 xs.2).map fun y => (.new (.lst y.1), back xs.2 vs y.2) else none

/-! ### defs -/
abbrev Den := List Sl → Option (R × List Ob)
def leave : R → Env → Option R
  | .val v, _ => some (.val v)
  | .new o, _ => some (.new o)
  | .bor i, ρ => match get ρ i with
    | some (.val v) => some (.val v)
    | some (.own o) => some (.new o)
    | _ => none
/-- the callers' objects behind the call -/
def outs : List Sl → Env → Option (List Ob)
  | [], _ => some []
  | .ref _ :: as, some (.ref o) :: ρ => (outs as ρ).map (o :: ·)
  | .ref _ :: _, _ => none
  | .val _ :: as, _ :: ρ => outs as ρ
  | _, _ => none
def startE (n : Nat) (as : List Sl) : Env := as.map some ++ List.replicate (n - as.length) none
def mkDen (n : Nat) (body : SM) : Den := fun as => (body (startE n as)).bind fun x => match x.1 with
  | .nx => (outs as x.2).map fun os => (.val .none, os)
  | .rt r => (leave r x.2).bind fun r' => (outs as x.2).map fun os => (r', os)
  | _ => none
/-- an argument: a value, or a name's object handed on -/
inductive Ag where
  | v (a : M) | r (i : Nat)
def agsEval : List Ag → Env → Option (List Sl × Env)
  | [], ρ => some ([], ρ)
  | .v a :: r, ρ => (a ρ).bind fun x => (frz x.1 x.2).bind fun v => (agsEval r v.2).map fun z => (.val v.1 :: z.1, z.2)
  | .r i :: r, ρ => (obAt ρ i).bind fun _ => (agsEval r ρ).bind fun z => (obAt z.2 i).map fun o => (.ref o :: z.1, z.2)
def refsOf : List Ag → List Nat
  | [] => []
  | .v _ :: r => refsOf r
  | .r i :: r => i :: refsOf r
def setObs : List Nat → List Ob → Env → Env
  | i :: is, o :: os, ρ => setObs is os (setOb ρ i o)
  | _, _, ρ => ρ
def mCall (d : Den) (as : List Ag) : M := fun ρ => (agsEval as ρ).bind fun z => if (refsOf as).Nodup then (d z.1).map fun y => (y.1, setObs (refsOf as) y.2 z.2) else none
end Py
/-! Py1: what binds the meanings of Py0 to the readings of the hand layer. -/
namespace Py
open PySem PySem.Spec PyProof.Rows L2

abbrev Ex (H H' : Hp) : Prop := ∀ a o, H a = some o → H' a = some o
theorem ex_rd {H H' : Hp} {a : Addr} {u : HO} (e : Ex H H') (h : Rd H a u) : Rd H' a u := by
  rcases h with h | ⟨o, h⟩
  · exact .inl (e a _ h)
  · exact .inr ⟨o, e a _ h⟩
theorem ex_l {K : PySem.W.Frag} {H H' : Hp} {a : Addr} {xs : List V} (e : Ex H H') (h : SqL K H a xs) : SqL K H' a xs := by
  rcases h with h | h
  · exact .inl (ex_rd e h)
  · exact .inr h
theorem ex_t {K : PySem.W.Frag} {H H' : Hp} {a : Addr} {xs : List V} (e : Ex H H') (h : SqT K H a xs) : SqT K H' a xs := by
  rcases h with h | h
  · exact .inl (ex_rd e h)
  · exact .inr h
mutual
theorem dp_mono {K : PySem.W.Frag} {H H' : Hp} (e : Ex H H') : ∀ (d : PyData) (v : V), Dp K H v d → Dp K H' v d
  | .none, _, h => by cases h; exact .non
  | .bool b, _, h => by cases h; exact .bl b
  | .int i, _, h => by cases h; exact .int i
  | .str x, _, h => by cases h; exact .str x
  | .list ds, _, h => by
    cases h with
    | lst hs ha => exact .lst (ex_l e hs) (dps_mono e ds _ ha)
  | .tuple ds, _, h => by
    cases h with
    | tup hs ha => exact .tup (ex_t e hs) (dps_mono e ds _ ha)
  | .dict _, _, h => by cases h
theorem dps_mono {K : PySem.W.Frag} {H H' : Hp} (e : Ex H H') : ∀ (ds : List PyData) (vs : List V), DpAll K H vs ds → DpAll K H' vs ds
  | [], _, h => by cases h; exact .nil
  | d :: ds, _, h => by
    cases h with
    | cons h1 h2 => exact .cons (dp_mono e d _ h1) (dps_mono e ds _ h2)
end
section
variable {K : PySem.W.Frag} {H H' : Hp}
theorem dps_len : ∀ {vs : List V} {ds : List PyData}, DpAll K H vs ds → vs.length = ds.length
  | _, _, .nil => rfl
  | _, _, .cons _ t => by simp [dps_len t]
theorem dps_get : ∀ {vs : List V} {ds : List PyData} {i : Nat} {d : PyData}, DpAll K H vs ds → ds[i]? = some d → ∃ v, vs[i]? = some v ∧ Dp K H v d
  | _, _, _, _, .nil, e => by simp at e
  | _, _, 0, _, .cons r _, e => by simp at e; subst e; exact ⟨_, rfl, r⟩
  | _, _, i + 1, d, .cons _ t, e => by
    obtain ⟨v, h1, h2⟩ := dps_get (i := i) (d := d) t (by simpa using e)
    exact ⟨v, by simpa using h1, h2⟩
theorem dps_app : ∀ {vs ws : List V} {ds es : List PyData}, DpAll K H vs ds → DpAll K H ws es → DpAll K H (vs ++ ws) (ds ++ es)
  | _, _, _, _, .nil, s => s
  | _, _, _, _, .cons r t, s => .cons r (dps_app t s)
theorem dps_take : ∀ {vs : List V} {ds : List PyData} (n : Nat), DpAll K H vs ds → DpAll K H (vs.take n) (ds.take n)
  | _, _, 0, _ => .nil
  | _, _, _ + 1, .nil => .nil
  | _, _, n + 1, .cons r t => .cons r (dps_take n t)
theorem dps_drop : ∀ {vs : List V} {ds : List PyData} (n : Nat), DpAll K H vs ds → DpAll K H (vs.drop n) (ds.drop n)
  | _, _, 0, r => r
  | _, _, _ + 1, .nil => .nil
  | _, _, n + 1, .cons _ t => dps_drop n t
theorem dps_set {v : V} {d : PyData} (r : Dp K H v d) : ∀ {vs : List V} {ds : List PyData} (i : Nat), DpAll K H vs ds → DpAll K H (vs.set i v) (ds.set i d)
  | _, _, _, .nil => .nil
  | _, _, 0, .cons _ t => .cons r t
  | _, _, i + 1, .cons q t => .cons q (dps_set r i t)
theorem dps_erase : ∀ {vs : List V} {ds : List PyData} (i : Nat), DpAll K H vs ds → DpAll K H (vs.eraseIdx i) (ds.eraseIdx i)
  | _, _, _, .nil => .nil
  | _, _, 0, .cons _ t => t
  | _, _, i + 1, .cons q t => .cons q (dps_erase i t)
theorem dps_rev : ∀ {vs : List V} {ds : List PyData}, DpAll K H vs ds → DpAll K H vs.reverse ds.reverse
  | _, _, .nil => .nil
  | _, _, .cons r t => by
    rw [List.reverse_cons, List.reverse_cons]
    exact dps_app (dps_rev t) (.cons r .nil)
theorem dps_dropLast {vs : List V} {ds : List PyData} (h : DpAll K H vs ds) : DpAll K H vs.dropLast ds.dropLast := by
  rw [List.dropLast_eq_take, List.dropLast_eq_take, dps_len h]
  exact dps_take _ h
theorem dps_rep {vs : List V} {ds : List PyData} (h : DpAll K H vs ds) : ∀ k : Nat, DpAll K H (List.replicate k vs).flatten (List.replicate k ds).flatten
  | 0 => .nil
  | k + 1 => by
    rw [List.replicate_succ, List.replicate_succ, List.flatten_cons, List.flatten_cons]
    exact dps_app h (dps_rep h k)
end
/-- a dict's pairs -/
inductive KvAll (K : PySem.W.Frag) (H : Hp) : List (Key × V) → List (Key × PV) → Prop
  | nil : KvAll K H [] []
  | cons {k : Key} {v : V} {d : PV} {ws : List (Key × V)} {kvs : List (Key × PV)} : Dp K H v d → KvAll K H ws kvs → KvAll K H ((k, v) :: ws) ((k, d) :: kvs)
theorem kvs_mono {K : PySem.W.Frag} {H H' : Hp} (e : Ex H H') : ∀ {ws : List (Key × V)} {kvs : List (Key × PV)}, KvAll K H ws kvs → KvAll K H' ws kvs
  | _, _, .nil => .nil
  | _, _, .cons r t => .cons (dp_mono e _ _ r) (kvs_mono e t)

/-! ### what a slot stands for -/
def slot (σ : L2.St) (i : Nat) : Option V := (σ[i]?).getD none
def RepOb (K : PySem.W.Frag) (Hf H : Hp) (p : Addr) : Ob → Prop
  | .lst xs => ∃ vs, H p = some (.lst vs) ∧ DpAll K Hf vs xs
  | .dct kvs => ∃ ws, H p = some (.dK ws) ∧ KvAll K Hf ws kvs
def RepSl (K : PySem.W.Frag) (Hf H : Hp) : Sl → V → Prop
  | .val v, u => Dp K Hf u v
  | .own o, u => ∃ p, u = .ref p ∧ Hf p = none ∧ RepOb K Hf H p o
  | .ref o, u => ∃ p, u = .ref p ∧ Hf p = none ∧ RepOb K Hf H p o
  | .lck kvs, u => ∃ p, u = .ref p ∧ ∃ ws od, Hf p = some (.frz od (.dK ws)) ∧ KvAll K Hf ws kvs
def isOb : Option Sl → Bool
  | some (.own _) => true
  | some (.ref _) => true
  | _ => false
def OwnAt (ρ : Env) (σ : L2.St) (i : Nat) (p : Addr) : Prop := isOb (get ρ i) = true ∧ slot σ i = some (.ref p)
def Own (ρ : Env) (σ : L2.St) (p : Addr) : Prop := ∃ i, OwnAt ρ σ i p
structure RepE (K : PySem.W.Frag) (Hf H : Hp) (ρ : Env) (σ : L2.St) : Prop where
  len : ρ.length = σ.length
  ff : Ex Hf H
  sl : ∀ i s, get ρ i = some s → ∃ u, slot σ i = some u ∧ RepSl K Hf H s u
  dis : ∀ i j p, OwnAt ρ σ i p → OwnAt ρ σ j p → i = j
structure Step (O : Addr → Prop) (Hf H Hf' H' : Hp) : Prop where
  ff : Ex Hf Hf'
  fh : Ex Hf' H'
  keep : ∀ a o, H a = some o → ¬ O a → H' a = some o
  nof : ∀ a o, H a = some o → ¬ O a → Hf' a = Hf a
  dom : ∀ a o, H a = some o → ∃ o', H' a = some o'
/-- what is read of an object: a dict may be locked -/
def RepCo (K : PySem.W.Frag) (Hf H : Hp) (p : Addr) : Ob → Prop
  | .lst xs => ∃ vs, H p = some (.lst vs) ∧ DpAll K Hf vs xs
  | .dct kvs => ∃ ws, Rd H p (.dK ws) ∧ KvAll K Hf ws kvs
theorem RepOb.co {K : PySem.W.Frag} {Hf H : Hp} {p : Addr} {o : Ob} (h : RepOb K Hf H p o) : RepCo K Hf H p o := by
  cases o with
  | lst xs => exact h
  | dct kvs => obtain ⟨ws, a, b⟩ := h; exact ⟨ws, .inl a, b⟩
def RepC (K : PySem.W.Frag) (Hf H : Hp) : Ct → V → Prop
  | .pv v, u => Dp K Hf u v
  | .ob o, u => ∃ p, u = .ref p ∧ RepCo K Hf H p o
/-- H0: the heap in which a new object was not there -/
def RepR (K : PySem.W.Frag) (Hf H H0 : Hp) (σ : L2.St) : R → V → Prop
  | .val v, u => Dp K Hf u v
  | .new o, u => ∃ p, u = .ref p ∧ H0 p = none ∧ Hf p = none ∧ RepOb K Hf H p o
  | .bor i, u => slot σ i = some u
/-- what an expression may do to the names -/
structure Kp (ρ ρ' : Env) : Prop where
  own : ∀ i, isOb (get ρ' i) = true → isOb (get ρ i) = true
  ref : ∀ i, isRef (get ρ' i) = isRef (get ρ i)

section
variable {K : PySem.W.Frag} {Hf H Hf' H' Hf1 H1 Hf2 H2 H0 : Hp} {ρ ρ' ρ1 ρ2 : Env} {σ σ' : L2.St} {O O' O1 : Addr → Prop}

theorem get_set (ρ : Env) (i j : Nat) (s : Option Sl) : get (ρ.set i s) j = if i = j ∧ i < ρ.length then s else get ρ j := by
  unfold get
  by_cases h : i = j
  · subst h
    by_cases hl : i < ρ.length
    · rw [if_pos ⟨rfl, hl⟩, List.getElem?_set_self hl]; rfl
    · rw [if_neg (fun z => hl z.2), List.getElem?_eq_none (by simpa using hl), List.getElem?_eq_none (by simpa using hl)]
  · rw [if_neg (fun z => h z.1), List.getElem?_set_ne h]
theorem slot_set (σ : L2.St) (i j : Nat) (s : Option V) : slot (σ.set i s) j = if i = j ∧ i < σ.length then s else slot σ j := by
  unfold slot
  by_cases h : i = j
  · subst h
    by_cases hl : i < σ.length
    · rw [if_pos ⟨rfl, hl⟩, List.getElem?_set_self hl]; rfl
    · rw [if_neg (fun z => hl z.2), List.getElem?_eq_none (by simpa using hl), List.getElem?_eq_none (by simpa using hl)]
  · rw [if_neg (fun z => h z.1), List.getElem?_set_ne h]
theorem slot_at {i : Nat} {u : V} (h : slot σ i = some u) : σ[i]? = some (some u) := by
  unfold slot at h
  cases q : σ[i]? with
  | none => rw [q] at h; cases h
  | some x => rw [q] at h; exact congrArg some h

theorem Step.refl (e : Ex Hf H) : Step O Hf H Hf H := ⟨fun _ _ h => h, e, fun _ _ h _ => h, fun _ _ _ _ => rfl, fun _ o h => ⟨o, h⟩⟩
theorem Step.trans (a : Step O Hf H Hf1 H1) (b : Step O1 Hf1 H1 Hf2 H2) (h : ∀ p, O1 p → O p ∨ H p = none) : Step O Hf H Hf2 H2 := by
  have no : ∀ p o, H p = some o → ¬ O p → ¬ O1 p := fun p o e n z => by
    rcases h p z with q | q
    · exact n q
    · rw [e] at q; cases q
  refine ⟨fun p o e => b.ff p o (a.ff p o e), b.fh, fun p o e n => b.keep p o (a.keep p o e n) (no p o e n), fun p o e n => (b.nof p o (a.keep p o e n) (no p o e n)).trans (a.nof p o e n), fun p o e => ?_⟩
  obtain ⟨o', e'⟩ := a.dom p o e
  exact b.dom p o' e'
theorem Step.weak (a : Step O Hf H Hf1 H1) (h : ∀ p, O p → O1 p ∨ H p = none) : Step O1 Hf H Hf1 H1 := by
  have no : ∀ p o, H p = some o → ¬ O1 p → ¬ O p := fun p o e n z => by
    rcases h p z with q | q
    · exact n q
    · rw [e] at q; cases q
  exact ⟨a.ff, a.fh, fun p o e n => a.keep p o e (no p o e n), fun p o e n => a.nof p o e (no p o e n), a.dom⟩
theorem Step.fresh (a : Step O Hf H Hf1 H1) {p : Addr} (h : H1 p = none) : H p = none := by
  cases q : H p with
  | none => rfl
  | some o =>
    obtain ⟨o', e⟩ := a.dom p o q
    rw [h] at e; cases e

theorem RepOb.there {p : Addr} {o : Ob} (h : RepOb K Hf H p o) : ∃ x, H p = some x := by
  cases o with
  | lst xs => obtain ⟨_, e, _⟩ := h; exact ⟨_, e⟩
  | dct xs => obtain ⟨_, e, _⟩ := h; exact ⟨_, e⟩
theorem RepOb.step {p : Addr} {o : Ob} (h : RepOb K Hf H p o) (a : Step O Hf H Hf1 H1) (n : ¬ O p) : RepOb K Hf1 H1 p o := by
  cases o with
  | lst xs => obtain ⟨vs, e, d⟩ := h; exact ⟨vs, a.keep p _ e n, dps_mono a.ff _ _ d⟩
  | dct xs => obtain ⟨vs, e, d⟩ := h; exact ⟨vs, a.keep p _ e n, kvs_mono a.ff d⟩
theorem RepSl.step {s : Sl} {u : V} (h : RepSl K Hf H s u) (a : Step O Hf H Hf1 H1) (n : ∀ p, isOb (some s) = true → u = .ref p → ¬ O p) : RepSl K Hf1 H1 s u := by
  cases s with
  | val v => exact dp_mono a.ff _ _ h
  | own o =>
    obtain ⟨p, e, f, r⟩ := h
    obtain ⟨x, hx⟩ := r.there
    exact ⟨p, e, by rw [a.nof p x hx (n p rfl e)]; exact f, r.step a (n p rfl e)⟩
  | ref o =>
    obtain ⟨p, e, f, r⟩ := h
    obtain ⟨x, hx⟩ := r.there
    exact ⟨p, e, by rw [a.nof p x hx (n p rfl e)]; exact f, r.step a (n p rfl e)⟩
  | lck kvs => obtain ⟨p, e, ws, od, f, r⟩ := h; exact ⟨p, e, ws, od, a.ff p _ f, kvs_mono a.ff r⟩
/-- the names stand behind a step that touches none of their objects -/
theorem RepE.step (E : RepE K Hf H ρ σ) (a : Step O Hf H Hf1 H1) (n : ∀ p, Own ρ σ p → ¬ O p) : RepE K Hf1 H1 ρ σ := by
  refine ⟨E.len, a.fh, fun i s e => ?_, E.dis⟩
  obtain ⟨u, h1, h2⟩ := E.sl i s e
  refine ⟨u, h1, h2.step a fun p ho hu => n p ⟨i, ?_, ?_⟩⟩
  · rw [e]; exact ho
  · rw [h1, hu]
theorem RepE.there (E : RepE K Hf H ρ σ) {p : Addr} (h : Own ρ σ p) : (∃ x, H p = some x) ∧ Hf p = none := by
  obtain ⟨i, h1, h2⟩ := h
  cases q : get ρ i with
  | none => rw [q] at h1; cases h1
  | some s =>
    obtain ⟨u, h3, h4⟩ := E.sl i s q
    rw [h2] at h3; cases h3
    rw [q] at h1
    cases s with
    | val v => cases h1
    | own o => obtain ⟨p', e, f, r⟩ := h4; cases e; exact ⟨r.there, f⟩
    | ref o => obtain ⟨p', e, f, r⟩ := h4; cases e; exact ⟨r.there, f⟩
    | lck kvs => cases h1
theorem Kp.refl : Kp ρ ρ := ⟨fun _ h => h, fun _ => rfl⟩
theorem Kp.trans (a : Kp ρ ρ1) (b : Kp ρ1 ρ2) : Kp ρ ρ2 := ⟨fun i h => a.own i (b.own i h), fun i => (b.ref i).trans (a.ref i)⟩
theorem Kp.sub (a : Kp ρ ρ1) {p : Addr} (h : Own ρ1 σ p) : Own ρ σ p := by
  obtain ⟨i, h1, h2⟩ := h
  exact ⟨i, a.own i h1, h2⟩
theorem RepR.step {r : R} {u : V} (h : RepR K Hf H H0 σ r u) (a : Step O Hf H Hf1 H1) (n : ∀ p, O p → H0 p ≠ none) : RepR K Hf1 H1 H0 σ r u := by
  cases r with
  | val v => exact dp_mono a.ff _ _ h
  | new o =>
    obtain ⟨p, e, z, f, r⟩ := h
    obtain ⟨x, hx⟩ := r.there
    have np : ¬ O p := fun q => n p q z
    exact ⟨p, e, z, by rw [a.nof p x hx np]; exact f, r.step a np⟩
  | bor i => exact h
theorem RepR.back {r : R} {u : V} (h : RepR K Hf H H1 σ r u) (z : ∀ p, H1 p = none → H0 p = none) : RepR K Hf H H0 σ r u := by
  cases r with
  | val v => exact h
  | new o => obtain ⟨p, e, q, f, r⟩ := h; exact ⟨p, e, z p q, f, r⟩
  | bor i => exact h
theorem look_ok {r : R} {u : V} {c : Ct} (E : RepE K Hf H ρ σ) (h : RepR K Hf H H0 σ r u) (l : look r ρ = some c) : RepC K Hf H c u := by
  cases r with
  | val v => cases l; exact h
  | new o => cases l; obtain ⟨p, e, _, _, r⟩ := h; exact ⟨p, e, r.co⟩
  | bor i =>
    have l' : (get ρ i).map Sl.ct = some c := l
    cases q : get ρ i with
    | none => rw [q] at l'; cases l'
    | some s =>
      rw [q] at l'
      cases l'
      obtain ⟨u', h3, h4⟩ := E.sl i s q
      have h' : slot σ i = some u := h
      rw [h'] at h3; cases h3
      cases s with
      | val v => exact h4
      | own o => obtain ⟨p, e, _, r⟩ := h4; exact ⟨p, e, r.co⟩
      | ref o => obtain ⟨p, e, _, r⟩ := h4; exact ⟨p, e, r.co⟩
      | lck kvs => obtain ⟨p, e, ws, od, f, r⟩ := h4; exact ⟨p, e, ws, .inr ⟨od, E.ff p _ f⟩, r⟩
def isLck : Option Sl → Bool
  | some (.lck _) => true
  | _ => false
theorem isRef_isOb {s : Option Sl} (h : isRef s = true) (n : isLck s = false) : isOb s = true := by
  cases s with
  | none => cases h
  | some s => cases s <;> first | rfl | (cases h; done) | (simp [isLck] at n; done)
/-- a list that was nobody's, or a name's own, becomes a value -/
theorem frz_list {p : Addr} {xs : List PV} (e : Ex Hf H) (f : Hf p = none) (r : RepOb K Hf H p (.lst xs)) (hO : O p) :
    ∃ Hf', Step O Hf H Hf' H ∧ Dp K Hf' (.ref p) (.list xs) ∧ (∀ q, q ≠ p → Hf' q = Hf q) := by
  obtain ⟨vs, hv, d⟩ := r
  have ex : Ex Hf (upd Hf p (.lst vs)) := fun a o h => by
    rw [upd_ne (ne_of_none h f)]; exact h
  refine ⟨upd Hf p (.lst vs), ⟨ex, fun a o h => ?_, fun _ _ h _ => h, fun a o h n => ?_, fun _ o h => ⟨o, h⟩⟩, .lst (SqL.of upd_same) (dps_mono ex _ _ d), fun q hq => upd_ne hq⟩
  · by_cases ha : a = p
    · subst ha; rw [upd_same] at h; cases h; exact hv
    · rw [upd_ne ha] at h; exact e a o h
  · exact upd_ne fun z => n (z ▸ hO)
theorem frz_ok {r : R} {u : V} {v : PV} (E : RepE K Hf H ρ σ) (h : RepR K Hf H H0 σ r u) (no : ∀ q, Own ρ σ q → H0 q ≠ none) (l : frz r ρ = some (v, ρ')) :
    ∃ Hf', Step (fun p => Own ρ σ p ∨ H0 p = none) Hf H Hf' H ∧ RepE K Hf' H ρ' σ ∧ Dp K Hf' u v ∧ Kp ρ ρ' := by
  cases r with
  | val w => cases l; exact ⟨Hf, .refl E.ff, E, h, .refl⟩
  | new o =>
    obtain ⟨p, e, z, f, r⟩ := h
    subst e
    cases o with
    | dct kvs => cases l
    | lst xs =>
      cases l
      obtain ⟨Hf', S, d, hq⟩ := frz_list (O := fun p => p = p ∧ (Own ρ σ p ∨ H0 p = none)) E.ff f r ⟨rfl, .inr z⟩
      refine ⟨Hf', S.weak fun q hq => .inl hq.2, ⟨E.len, S.fh, fun i s e => ?_, E.dis⟩, d, .refl⟩
      obtain ⟨u, h1, h2⟩ := E.sl i s e
      refine ⟨u, h1, ?_⟩
      cases s with
      | val w => exact dp_mono S.ff _ _ h2
      | own o =>
        obtain ⟨q, e1, f1, r1⟩ := h2
        have nq : q ≠ p := fun y => no q ⟨i, by rw [e]; rfl, by rw [h1, e1]⟩ (y ▸ z)
        refine ⟨q, e1, by rw [hq q nq]; exact f1, ?_⟩
        cases o with
        | lst ys => obtain ⟨vs, a, b⟩ := r1; exact ⟨vs, a, dps_mono S.ff _ _ b⟩
        | dct ys => obtain ⟨vs, a, b⟩ := r1; exact ⟨vs, a, kvs_mono S.ff b⟩
      | ref o =>
        obtain ⟨q, e1, f1, r1⟩ := h2
        have nq : q ≠ p := fun y => no q ⟨i, by rw [e]; rfl, by rw [h1, e1]⟩ (y ▸ z)
        refine ⟨q, e1, by rw [hq q nq]; exact f1, ?_⟩
        cases o with
        | lst ys => obtain ⟨vs, a, b⟩ := r1; exact ⟨vs, a, dps_mono S.ff _ _ b⟩
        | dct ys => obtain ⟨vs, a, b⟩ := r1; exact ⟨vs, a, kvs_mono S.ff b⟩
      | lck kvs => obtain ⟨q, e1, ws, od, f, r⟩ := h2; exact ⟨q, e1, ws, od, S.ff q _ f, kvs_mono S.ff r⟩
  | bor i =>
    have h' : slot σ i = some u := h
    cases q : get ρ i with
    | none => simp only [frz, q] at l; cases l
    | some s =>
      obtain ⟨u', h3, h4⟩ := E.sl i s q
      rw [h'] at h3; cases h3
      cases s with
      | val w =>
        simp only [frz, q] at l
        cases l
        exact ⟨Hf, .refl E.ff, E, h4, .refl⟩
      | ref o => simp only [frz, q] at l; cases l
      | lck kvs => simp only [frz, q] at l; cases l
      | own o =>
        cases o with
        | dct kvs => simp only [frz, q, frzO] at l; cases l
        | lst xs =>
          simp only [frz, q, frzO, Option.map_some] at l
          cases l
          obtain ⟨p, e, f, r⟩ := h4
          subst e
          have oi : OwnAt ρ σ i p := ⟨by rw [q]; rfl, h'⟩
          obtain ⟨Hf', S, d, hq⟩ := frz_list (O := fun p => Own ρ σ p ∨ H0 p = none) E.ff f r (.inl ⟨i, oi⟩)
          have oth : ∀ j, OwnAt (ρ.set i (some (.val (.list xs)))) σ j p → False := fun j ⟨a, b⟩ => by
            rw [get_set] at a
            split at a
            · cases a
            · rename_i nn
              have ej := E.dis i j p oi ⟨a, b⟩
              subst ej
              refine nn ⟨rfl, ?_⟩
              have := (List.getElem?_eq_some_iff.mp (slot_at h')).1
              rw [E.len]; exact this
          have sub : ∀ j p', OwnAt (ρ.set i (some (.val (.list xs)))) σ j p' → OwnAt ρ σ j p' := fun j p' ⟨a, b⟩ => ⟨by
            rw [get_set] at a
            split at a
            · cases a
            · exact a, b⟩
          refine ⟨Hf', S, ⟨by rw [List.length_set]; exact E.len, S.fh, fun j s e => ?_, fun j k p' a b => E.dis j k p' (sub j p' a) (sub k p' b)⟩, d, ⟨fun j a => ?_, fun j => ?_⟩⟩
          · rw [get_set] at e
            split at e
            · rename_i hh
              cases e
              obtain ⟨rfl, _⟩ := hh
              exact ⟨_, h', d⟩
            · rename_i nn
              obtain ⟨u, h1, h2⟩ := E.sl j s e
              refine ⟨u, h1, ?_⟩
              cases s with
              | val w => exact dp_mono S.ff _ _ h2
              | own o =>
                obtain ⟨q', e1, f1, r1⟩ := h2
                have nq : q' ≠ p := fun y => oth j ⟨by rw [get_set, if_neg nn, e]; rfl, by rw [h1, e1, y]⟩
                refine ⟨q', e1, by rw [hq q' nq]; exact f1, ?_⟩
                cases o with
                | lst ys => obtain ⟨vs, a, b⟩ := r1; exact ⟨vs, a, dps_mono S.ff _ _ b⟩
                | dct ys => obtain ⟨vs, a, b⟩ := r1; exact ⟨vs, a, kvs_mono S.ff b⟩
              | ref o =>
                obtain ⟨q', e1, f1, r1⟩ := h2
                have nq : q' ≠ p := fun y => oth j ⟨by rw [get_set, if_neg nn, e]; rfl, by rw [h1, e1, y]⟩
                refine ⟨q', e1, by rw [hq q' nq]; exact f1, ?_⟩
                cases o with
                | lst ys => obtain ⟨vs, a, b⟩ := r1; exact ⟨vs, a, dps_mono S.ff _ _ b⟩
                | dct ys => obtain ⟨vs, a, b⟩ := r1; exact ⟨vs, a, kvs_mono S.ff b⟩
              | lck kvs => obtain ⟨q', e1, ws, od, f, r⟩ := h2; exact ⟨q', e1, ws, od, S.ff q' _ f, kvs_mono S.ff r⟩
          · rw [get_set] at a
            split at a
            · cases a
            · exact a
          · rw [get_set]
            split
            · rename_i hh
              obtain ⟨rfl, _⟩ := hh
              rw [q]; rfl
            · rfl
end
end Py
/-! Py2: expressions. -/
namespace Py
open PySem PySem.Spec PyProof.Rows L2

def Nobody : Addr → Prop := fun _ => False
/-- the sound meaning of a reading -/
def SE (K : PySem.W.Frag) (te : TE) (m : M) : Prop := ∀ (ρ : Env) (r : R) (ρ' : Env) (σ : L2.St) (Hf H : Hp), m ρ = some (r, ρ') → RepE K Hf H ρ σ → ∀ Q : VK,
  (∀ u Hf' H', Step (Own ρ σ) Hf H Hf' H' → RepE K Hf' H' ρ' σ → RepR K Hf' H' H σ r u → Kp ρ ρ' → Q u H') → te σ H Q
def ST (K : PySem.W.Frag) (tt : TT) (m : MT) : Prop := ∀ (ρ : Env) (b : Bool) (ρ' : Env) (σ : L2.St) (Hf H : Hp), m ρ = some (b, ρ') → RepE K Hf H ρ σ → ∀ Q : Bool → Hp → Prop,
  (∀ Hf' H', Step (Own ρ σ) Hf H Hf' H' → RepE K Hf' H' ρ' σ → Kp ρ ρ' → Q b H') → tt σ H Q
def SLs (K : PySem.W.Frag) (ta : TA) (m : ML) : Prop := ∀ (ρ : Env) (vs : List PV) (ρ' : Env) (σ : L2.St) (Hf H : Hp), m ρ = some (vs, ρ') → RepE K Hf H ρ σ → ∀ Q : List V → Hp → Prop,
  (∀ us Hf' H', Step (Own ρ σ) Hf H Hf' H' → RepE K Hf' H' ρ' σ → DpAll K Hf' us vs → Kp ρ ρ' → Q us H') → ta σ H Q
structure BE (X : Cx) (e : Expr) (m : M) : Prop where
  ex : ∃ te, PE X e te ∧ SE X.K te m
structure BT (X : Cx) (e : Expr) (m : MT) : Prop where
  ex : ∃ tt, PT X e tt ∧ ST X.K tt m
structure BW (X : Cx) (e : Expr) (m : MT) : Prop where
  ex : ∃ tt, PW X e tt ∧ ST X.K tt m
structure BL (X : Cx) (es : List Expr) (m : ML) : Prop where
  ex : ∃ ta, PA X es ta ∧ SLs X.K ta m
/-- a two-place operation by contents -/
def OpS (K : PySem.W.Frag) (r : R2) (f : Ct → Ct → Option R) : Prop := ∀ (Hf H : Hp) (c d : Ct) (x y : V) (z : R), Ex Hf H → RepC K Hf H c x → RepC K Hf H d y → f c d = some z → ∀ Q : VK,
  (∀ u Hf' H', Step Nobody Hf H Hf' H' → RepR K Hf' H' H [] z u → Q u H') → r x y H Q
structure OpB (X : Cx) (fn : Value → Value → Sem Value) (f : Ct → Ct → Option R) : Prop where
  ex : ∃ r, OpR X fn r ∧ OpS X.K r f
def UnS (K : PySem.W.Frag) (r : V → Hp → VK → Prop) (f : Ct → Option R) : Prop := ∀ (Hf H : Hp) (c : Ct) (x : V) (z : R), Ex Hf H → RepC K Hf H c x → f c = some z → ∀ Q : VK,
  (∀ u Hf' H', Step Nobody Hf H Hf' H' → RepR K Hf' H' H [] z u → Q u H') → r x H Q

section
variable {K : PySem.W.Frag} {Hf H Hf' H' Hf1 H1 Hf2 H2 H0 : Hp} {ρ ρ' ρ1 ρ2 : Env} {σ σ' : L2.St} {O O' O1 : Addr → Prop}
theorem RepR.any {r : R} {u : V} (h : RepR K Hf H H0 [] r u) : RepR K Hf H H0 σ r u := by
  cases r with
  | val v => exact h
  | new o => exact h
  | bor i =>
    have h' : slot [] i = some u := h
    simp [slot] at h'
/-- behind a: what holds there, for what comes behind it -/
structure Bh (K : PySem.W.Frag) (Hf H : Hp) (ρ : Env) (σ : L2.St) (Hf1 H1 : Hp) (ρ1 : Env) : Prop where
  st : Step (Own ρ σ) Hf H Hf1 H1
  en : RepE K Hf1 H1 ρ1 σ
  kp : Kp ρ ρ1
theorem Bh.refl (E : RepE K Hf H ρ σ) : Bh K Hf H ρ σ Hf H ρ := ⟨.refl E.ff, E, .refl⟩
theorem Bh.trans (a : Bh K Hf H ρ σ Hf1 H1 ρ1) (b : Bh K Hf1 H1 ρ1 σ Hf2 H2 ρ2) : Bh K Hf H ρ σ Hf2 H2 ρ2 :=
  ⟨a.st.trans b.st fun p h => .inl (a.kp.sub h), b.en, a.kp.trans b.kp⟩
/-- a step that touches nobody's object -/
theorem Bh.more (a : Bh K Hf H ρ σ Hf1 H1 ρ1) (b : Step Nobody Hf1 H1 Hf2 H2) : Bh K Hf H ρ σ Hf2 H2 ρ1 :=
  ⟨a.st.trans b fun p h => h.elim, a.en.step b fun _ _ h => h, a.kp⟩
theorem Bh.fresh (a : Bh K Hf H ρ σ Hf1 H1 ρ1) {p : Addr} (h : H1 p = none) : H p = none := a.st.fresh h
theorem Bh.no (a : Bh K Hf H ρ σ Hf1 H1 ρ1) (E : RepE K Hf H ρ σ) : ∀ q, Own ρ1 σ q → H q ≠ none := fun q h z => by
  obtain ⟨⟨x, hx⟩, _⟩ := E.there (a.kp.sub h)
  rw [z] at hx; cases hx
/-- an older result, behind what came behind it -/
theorem Bh.keepR (a : Bh K Hf H ρ σ Hf1 H1 ρ1) (E : RepE K Hf H ρ σ) (b : Bh K Hf1 H1 ρ1 σ Hf2 H2 ρ2) {r : R} {u : V} (h : RepR K Hf1 H1 H σ r u) : RepR K Hf2 H2 H σ r u :=
  h.step b.st fun p hp => a.no E p hp
theorem Bh.frz (a : Bh K Hf H ρ σ Hf1 H1 ρ1) (E : RepE K Hf H ρ σ) {r : R} {u : V} {v : PV} (h : RepR K Hf1 H1 H σ r u) (l : Py.frz r ρ1 = some (v, ρ2)) : ∃ Hf2, Bh K Hf H ρ σ Hf2 H1 ρ2 ∧ Dp K Hf2 u v := by
  obtain ⟨Hf2, S, E2, d, k⟩ := frz_ok a.en h (a.no E) l
  refine ⟨Hf2, ⟨a.st.trans S fun p hp => ?_, E2, a.kp.trans k⟩, d⟩
  rcases hp with hp | hp
  · exact .inl (a.kp.sub hp)
  · exact .inr hp

/-! ### the pieces -/
theorem se_c {v : PV} {u : V} (h : ∀ Hf, Dp K Hf u v) : SE K (tC u) (mC v) := by
  intro ρ r ρ' σ Hf H hm E Q q
  cases hm
  exact q u Hf H (.refl E.ff) E (h Hf) .refl
theorem se_var (i : Nat) : SE K (tVar i) (mVar i) := by
  intro ρ r ρ' σ Hf H hm E Q q
  unfold mVar at hm
  cases g : get ρ i with
  | none => rw [g] at hm; cases hm
  | some s =>
    rw [g] at hm
    obtain ⟨u, h1, h2⟩ := E.sl i s g
    refine ⟨u, slot_at h1, ?_⟩
    cases s with
    | val v => cases hm; exact q u Hf H (.refl E.ff) E h2 .refl
    | own o => cases hm; exact q u Hf H (.refl E.ff) E h1 .refl
    | ref o => cases hm; exact q u Hf H (.refl E.ff) E h1 .refl
    | lck kvs => cases hm; exact q u Hf H (.refl E.ff) E h1 .refl
theorem se_op {ta tb : TE} {a b : M} {r : R2} {f : Ct → Ct → Option R} (ha : SE K ta a) (hb : SE K tb b) (hr : OpS K r f) : SE K (tOp r ta tb) (mOp f a b) := by
  intro ρ r' ρ' σ Hf H hm E Q q
  simp only [mOp, Option.bind_eq_some_iff, Option.map_eq_some_iff, Prod.mk.injEq] at hm
  obtain ⟨⟨x, ρ1⟩, e1, ⟨y, ρ2⟩, e2, c, e3, d, e4, z, e5, rfl, rfl⟩ := hm
  refine ha ρ x ρ1 σ Hf H e1 E _ fun u Hf1 H1 S1 E1 R1 k1 => ?_
  have B1 : Bh K Hf H ρ σ Hf1 H1 ρ1 := ⟨S1, E1, k1⟩
  refine hb ρ1 y ρ2 σ Hf1 H1 e2 E1 _ fun w Hf2 H2 S2 E2 R2 k2 => ?_
  have B2 : Bh K Hf1 H1 ρ1 σ Hf2 H2 ρ2 := ⟨S2, E2, k2⟩
  have R1' := B1.keepR E B2 R1
  refine hr Hf2 H2 c d u w z E2.ff (look_ok E2 R1' e3) (look_ok E2 R2 e4) e5 _ fun t Hf3 H3 S3 R3 => ?_
  have B3 := (B1.trans B2).more S3
  exact q t Hf3 H3 B3.st B3.en (R3.any.back fun p hp => (B1.trans B2).fresh hp) B3.kp
theorem se_un {ta : TE} {a : M} {r : V → Hp → VK → Prop} {f : Ct → Option R} (ha : SE K ta a) (hr : UnS K r f) : SE K (tUn r ta) (mUn f a) := by
  intro ρ r' ρ' σ Hf H hm E Q q
  simp only [mUn, Option.bind_eq_some_iff, Option.map_eq_some_iff, Prod.mk.injEq] at hm
  obtain ⟨⟨x, ρ1⟩, e1, c, e3, z, e5, rfl, rfl⟩ := hm
  refine ha ρ x ρ1 σ Hf H e1 E _ fun u Hf1 H1 S1 E1 R1 k1 => ?_
  have B1 : Bh K Hf H ρ σ Hf1 H1 ρ1 := ⟨S1, E1, k1⟩
  refine hr Hf1 H1 c u z E1.ff (look_ok E1 R1 e3) e5 _ fun t Hf3 H3 S3 R3 => ?_
  have B3 := B1.more S3
  exact q t Hf3 H3 B3.st B3.en (R3.any.back fun p hp => B1.fresh hp) B3.kp
theorem boolOf_some {c : Ct} {b : Bool} (h : boolOf c = some b) : c = .pv (.bool b) := by
  unfold boolOf at h
  split at h
  · cases h; rfl
  · cases h
theorem rep_bool {b : Bool} {u : V} (h : RepC K Hf H (.pv (.bool b)) u) : u = .bl b := by cases h; rfl
theorem st_B {ta : TE} {a : M} (ha : SE K ta a) : ST K (tTest ta) (mB a) := by
  intro ρ b ρ' σ Hf H hm E Q q
  simp only [mB, Option.bind_eq_some_iff, Option.map_eq_some_iff, Prod.mk.injEq] at hm
  obtain ⟨⟨x, ρ1⟩, e1, c, e3, z, e5, rfl, rfl⟩ := hm
  refine ha ρ x ρ1 σ Hf H e1 E _ fun u Hf1 H1 S1 E1 R1 k1 => ?_
  have hc := look_ok E1 R1 e3
  rw [boolOf_some e5] at hc
  exact ⟨z, rep_bool hc, q Hf1 H1 S1 E1 k1⟩
theorem dps_isEmpty {us : List V} {vs : List PV} (h : DpAll K H us vs) : (!us.isEmpty) = !vs.isEmpty := by cases h <;> rfl
theorem tru_of {c : Ct} {b : Bool} {u : V} (e : Ex Hf H) (h : truOf c = some b) (r : RepC K Hf H c u) : TruV K u H b := by
  cases c with
  | pv v =>
    cases v with
    | none => cases h; cases r; exact rfl
    | bool b => cases h; cases r; exact rfl
    | int i => cases h; cases r; exact rfl
    | str x => cases h
    | list xs => cases h; cases r with | lst hs ha => exact .inl ⟨_, ex_l e hs, (dps_isEmpty ha).symm⟩
    | tuple xs => cases h; cases r with | tup hs ha => exact .inr (.inl ⟨_, ex_t e hs, (dps_isEmpty ha).symm⟩)
    | dict kvs => cases h
  | ob o =>
    obtain ⟨p, rfl, r⟩ := r
    cases o with
    | lst xs => cases h; obtain ⟨vs, e1, d⟩ := r; exact .inl ⟨_, SqL.of e1, (dps_isEmpty d).symm⟩
    | dct xs => cases h
theorem st_tru {ta : TE} {a : M} (ha : SE K ta a) : ST K (fun σ H Q => ta σ H fun x H' => ∃ k, TruV K x H' k ∧ Q k H') (mTru a) := by
  intro ρ b ρ' σ Hf H hm E Q q
  simp only [mTru, Option.bind_eq_some_iff, Option.map_eq_some_iff, Prod.mk.injEq] at hm
  obtain ⟨⟨x, ρ1⟩, e1, c, e3, z, e5, rfl, rfl⟩ := hm
  refine ha ρ x ρ1 σ Hf H e1 E _ fun u Hf1 H1 S1 E1 R1 k1 => ?_
  exact ⟨z, tru_of E1.ff e5 (look_ok E1 R1 e3), q Hf1 H1 S1 E1 k1⟩
theorem st_and {ta tb : TT} {a b : MT} (ha : ST K ta a) (hb : ST K tb b) : ST K (tAnd ta tb) (mAnd a b) := by
  intro ρ z ρ' σ Hf H hm E Q q
  simp only [mAnd, Option.bind_eq_some_iff] at hm
  obtain ⟨⟨x, ρ1⟩, e1, e2⟩ := hm
  refine ha ρ x ρ1 σ Hf H e1 E _ fun Hf1 H1 S1 E1 k1 => ?_
  have B1 : Bh K Hf H ρ σ Hf1 H1 ρ1 := ⟨S1, E1, k1⟩
  cases x with
  | true =>
    simp only [if_true] at e2 ⊢
    refine hb ρ1 z ρ' σ Hf1 H1 e2 E1 _ fun Hf2 H2 S2 E2 k2 => ?_
    have B2 := B1.trans (⟨S2, E2, k2⟩ : Bh K Hf1 H1 ρ1 σ Hf2 H2 ρ')
    exact q Hf2 H2 B2.st B2.en B2.kp
  | false =>
    simp only [Bool.false_eq_true, if_false] at e2 ⊢
    cases e2
    exact q Hf1 H1 S1 E1 k1
theorem st_or {ta tb : TT} {a b : MT} (ha : ST K ta a) (hb : ST K tb b) : ST K (tOr ta tb) (mOr a b) := by
  intro ρ z ρ' σ Hf H hm E Q q
  simp only [mOr, Option.bind_eq_some_iff] at hm
  obtain ⟨⟨x, ρ1⟩, e1, e2⟩ := hm
  refine ha ρ x ρ1 σ Hf H e1 E _ fun Hf1 H1 S1 E1 k1 => ?_
  have B1 : Bh K Hf H ρ σ Hf1 H1 ρ1 := ⟨S1, E1, k1⟩
  cases x with
  | false =>
    simp only [Bool.false_eq_true, if_false] at e2 ⊢
    refine hb ρ1 z ρ' σ Hf1 H1 e2 E1 _ fun Hf2 H2 S2 E2 k2 => ?_
    have B2 := B1.trans (⟨S2, E2, k2⟩ : Bh K Hf1 H1 ρ1 σ Hf2 H2 ρ')
    exact q Hf2 H2 B2.st B2.en B2.kp
  | true =>
    simp only [if_true] at e2 ⊢
    cases e2
    exact q Hf1 H1 S1 E1 k1
theorem st_not {ta : TT} {a : MT} (ha : ST K ta a) : ST K (tNot ta) (mNot a) := by
  intro ρ z ρ' σ Hf H hm E Q q
  simp only [mNot, Option.bind_eq_some_iff, Option.some.injEq, Prod.mk.injEq] at hm
  obtain ⟨⟨x, ρ1⟩, e1, rfl, rfl⟩ := hm
  exact ha ρ x ρ1 σ Hf H e1 E _ fun Hf1 H1 S1 E1 k1 => q Hf1 H1 S1 E1 k1
theorem se_andV {ta tb : TE} {a b : M} (ha : SE K ta a) (hb : SE K tb b) : SE K (tAndV ta tb) (mAndV a b) := by
  intro ρ z ρ' σ Hf H hm E Q q
  simp only [mAndV, Option.bind_eq_some_iff] at hm
  obtain ⟨⟨x, ρ1⟩, e1, c, e2, k, e3, e4⟩ := hm
  refine ha ρ x ρ1 σ Hf H e1 E _ fun u Hf1 H1 S1 E1 R1 k1 => ?_
  have B1 : Bh K Hf H ρ σ Hf1 H1 ρ1 := ⟨S1, E1, k1⟩
  have hc := look_ok E1 R1 e2
  rw [boolOf_some e3] at hc
  refine ⟨k, rep_bool hc, ?_⟩
  cases k with
  | true =>
    simp only [if_true] at e4 ⊢
    refine hb ρ1 z ρ' σ Hf1 H1 e4 E1 _ fun w Hf2 H2 S2 E2 R2 k2 => ?_
    have B2 := B1.trans (⟨S2, E2, k2⟩ : Bh K Hf1 H1 ρ1 σ Hf2 H2 ρ')
    exact q w Hf2 H2 B2.st B2.en (R2.back fun p hp => B1.fresh hp) B2.kp
  | false =>
    simp only [Bool.false_eq_true, if_false] at e4 ⊢
    cases e4
    exact q _ Hf1 H1 S1 E1 (.bl false) k1
theorem se_notV {ta : TE} {a : M} (ha : SE K ta a) : SE K (tNotV ta) (mNotV a) := by
  intro ρ z ρ' σ Hf H hm E Q q
  simp only [mNotV, Option.bind_eq_some_iff, Option.some.injEq, Prod.mk.injEq] at hm
  obtain ⟨⟨x, ρ1⟩, e1, c, e2, k, e3, rfl, rfl⟩ := hm
  refine ha ρ x ρ1 σ Hf H e1 E _ fun u Hf1 H1 S1 E1 R1 k1 => ?_
  have hc := look_ok E1 R1 e2
  rw [boolOf_some e3] at hc
  exact ⟨k, rep_bool hc, q _ Hf1 H1 S1 E1 (.bl (!k)) k1⟩
theorem se_if {tt : TT} {ta tb : TE} {t : MT} {a b : M} (ht : ST K tt t) (ha : SE K ta a) (hb : SE K tb b) : SE K (tIf tt ta tb) (mIfE t a b) := by
  intro ρ z ρ' σ Hf H hm E Q q
  simp only [mIfE, Option.bind_eq_some_iff] at hm
  obtain ⟨⟨x, ρ1⟩, e1, e2⟩ := hm
  refine ht ρ x ρ1 σ Hf H e1 E _ fun Hf1 H1 S1 E1 k1 => ?_
  have B1 : Bh K Hf H ρ σ Hf1 H1 ρ1 := ⟨S1, E1, k1⟩
  cases x with
  | true =>
    simp only [if_true] at e2 ⊢
    refine ha ρ1 z ρ' σ Hf1 H1 e2 E1 _ fun w Hf2 H2 S2 E2 R2 k2 => ?_
    have B2 := B1.trans (⟨S2, E2, k2⟩ : Bh K Hf1 H1 ρ1 σ Hf2 H2 ρ')
    exact q w Hf2 H2 B2.st B2.en (R2.back fun p hp => B1.fresh hp) B2.kp
  | false =>
    simp only [Bool.false_eq_true, if_false] at e2 ⊢
    refine hb ρ1 z ρ' σ Hf1 H1 e2 E1 _ fun w Hf2 H2 S2 E2 R2 k2 => ?_
    have B2 := B1.trans (⟨S2, E2, k2⟩ : Bh K Hf1 H1 ρ1 σ Hf2 H2 ρ')
    exact q w Hf2 H2 B2.st B2.en (R2.back fun p hp => B1.fresh hp) B2.kp
theorem sl_nil : SLs K tNil lNil := by
  intro ρ vs ρ' σ Hf H hm E Q q
  cases hm
  exact q [] Hf H (.refl E.ff) E .nil .refl
theorem sl_cons {ta : TE} {tr : TA} {a : M} {r : ML} (ha : SE K ta a) (hr : SLs K tr r) : SLs K (tCons ta tr) (lCons a r) := by
  intro ρ vs ρ' σ Hf H hm E Q q
  simp only [lCons, Option.bind_eq_some_iff, Option.map_eq_some_iff, Prod.mk.injEq] at hm
  obtain ⟨⟨x, ρ1⟩, e1, ⟨v, ρ2⟩, e2, ⟨vs', ρ3⟩, e3, rfl, rfl⟩ := hm
  refine ha ρ x ρ1 σ Hf H e1 E _ fun u Hf1 H1 S1 E1 R1 k1 => ?_
  have B1 : Bh K Hf H ρ σ Hf1 H1 ρ1 := ⟨S1, E1, k1⟩
  obtain ⟨Hf2, B2, d⟩ := B1.frz E R1 e2
  refine hr ρ2 vs' ρ3 σ Hf2 H1 e3 B2.en _ fun us Hf3 H3 S3 E3 D3 k3 => ?_
  have B3 := B2.trans (⟨S3, E3, k3⟩ : Bh K Hf2 H1 ρ2 σ Hf3 H3 ρ3)
  exact q (u :: us) Hf3 H3 B3.st B3.en (.cons (dp_mono S3.ff _ _ d) D3) B3.kp
theorem line_eq : line = sizeLine := by rw [sizeLine_eq]; rfl
/-- a new tuple, a new list -/
theorem new_tup {us : List V} {vs : List PV} (e : Ex Hf H) (d : DpAll K Hf us vs) {p : Addr} (hp : H p = none) : Step Nobody Hf H (upd Hf p (.tup us)) (upd H p (.tup us)) ∧ Dp K (upd Hf p (.tup us)) (.ref p) (.tuple vs) := by
  have fp : Hf p = none := by
    cases z : Hf p with
    | none => rfl
    | some o => have := e p o z; rw [hp] at this; cases this
  have ex : Ex Hf (upd Hf p (.tup us)) := fun a o h => by rw [upd_ne (ne_of_none h fp)]; exact h
  refine ⟨⟨ex, fun a o h => ?_, fun a o h _ => by rw [upd_ne (ne_of_none h hp)]; exact h, fun a o h _ => upd_ne (ne_of_none h hp), fun a o h => ⟨o, by rw [upd_ne (ne_of_none h hp)]; exact h⟩⟩, .tup (SqT.of upd_same) (dps_mono ex _ _ d)⟩
  by_cases ha : a = p
  · subst ha; rw [upd_same] at h ⊢; exact h
  · rw [upd_ne ha] at h ⊢; exact e a o h
theorem new_ob {o : HO} (e : Ex Hf H) {p : Addr} (hp : H p = none) : Step Nobody Hf H Hf (upd H p o) ∧ Hf p = none := by
  have fp : Hf p = none := by
    cases z : Hf p with
    | none => rfl
    | some o => have := e p o z; rw [hp] at this; cases this
  exact ⟨⟨fun _ _ h => h, fun a o h => by rw [upd_ne (ne_of_none h fp)]; exact e a o h, fun a o h _ => by rw [upd_ne (ne_of_none h hp)]; exact h, fun _ _ _ _ => rfl, fun a o h => ⟨o, by rw [upd_ne (ne_of_none h hp)]; exact h⟩⟩, fp⟩
theorem se_tup {ta : TA} {l : ML} (hl : SLs K ta l) : SE K (tTup ta) (mTup l) := by
  intro ρ z ρ' σ Hf H hm E Q q
  simp only [mTup, Option.bind_eq_some_iff] at hm
  obtain ⟨⟨vs, ρ1⟩, e1, e2⟩ := hm
  split at e2
  · rename_i hz
    cases e2
    refine hl ρ vs ρ1 σ Hf H e1 E _ fun us Hf1 H1 S1 E1 D1 k1 => ?_
    have B1 : Bh K Hf H ρ σ Hf1 H1 ρ1 := ⟨S1, E1, k1⟩
    refine ⟨by rw [dps_len D1, ← line_eq]; exact hz, fun p hp => ?_⟩
    obtain ⟨S, d⟩ := new_tup E1.ff D1 hp
    have B2 := B1.more S
    exact q _ _ _ B2.st B2.en d B2.kp
  · cases e2
theorem se_lst {ta : TA} {l : ML} (hl : SLs K ta l) : SE K (tLst ta) (mLst l) := by
  intro ρ z ρ' σ Hf H hm E Q q
  simp only [mLst, Option.bind_eq_some_iff] at hm
  obtain ⟨⟨vs, ρ1⟩, e1, e2⟩ := hm
  split at e2
  · rename_i hz
    cases e2
    refine hl ρ vs ρ1 σ Hf H e1 E _ fun us Hf1 H1 S1 E1 D1 k1 => ?_
    have B1 : Bh K Hf H ρ σ Hf1 H1 ρ1 := ⟨S1, E1, k1⟩
    refine ⟨by rw [dps_len D1, ← line_eq]; exact hz, fun p hp => ?_⟩
    obtain ⟨S, fp⟩ := new_ob (o := .lst us) E1.ff hp
    have B2 := B1.more S
    exact q _ _ _ B2.st B2.en ⟨p, rfl, B1.fresh hp, fp, us, upd_same, D1⟩ B2.kp
  · cases e2
end

/-! ### the rules a derivation is made of -/
section
variable {X : Cx} {a b c : Expr} {ma mb mc : M} {ta tb : MT} {pos : Pos}
theorem be_var (i : Nat) {x : Str} {pos : Pos} (hN : X.N[i]? = some x := by rfl) (hv : Vis X.env.scope x := by first | exact Or.inl rfl | exact Or.inr (Or.inl rfl) | exact Or.inr (Or.inr rfl)) (hd : (x == ("__debug__" : Str)) = false := by decide)
    (hcd : (x == ("__classdict__" : Str)) = false := by decide) : BE X (.Name x pos) (mVar i) := ⟨_, pe_var hN hv hd hcd, se_var i⟩
theorem be_int {i j pos} : BE X (.Constant (.int i) j pos) (mC (.int i)) := ⟨_, pe_int, se_c fun _ => .int i⟩
theorem be_bl {b j pos} : BE X (.Constant (.bool b) j pos) (mC (.bool b)) := ⟨_, pe_bl, se_c fun _ => .bl b⟩
theorem be_non {j pos} : BE X (.Constant .none j pos) (mC .none) := ⟨_, pe_non, se_c fun _ => .non⟩
theorem be_op {op : Operator} {f : Ct → Ct → Option R} (ho : OpB X (binaryOp op) f) (ha : BE X a ma) (hb : BE X b mb) : BE X (.BinOp a op b pos) (mOp f ma mb) := by
  obtain ⟨r, h1, h2⟩ := ho
  obtain ⟨t1, a1, a2⟩ := ha
  obtain ⟨t2, b1, b2⟩ := hb
  exact ⟨_, pe_op h1 a1 b1, se_op a2 b2 h2⟩
theorem be_cmp {op : CmpOp} {f : Ct → Ct → Option R} (ho : OpB X (compareOp op) f) (ha : BE X a ma) (hb : BE X b mb) (hm : behindInMarks op b = false := by first | exact nomark _ | with_unfolding_all rfl) : BE X (.Compare a [op] [b] pos) (mOp f ma mb) := by
  obtain ⟨r, h1, h2⟩ := ho
  obtain ⟨t1, a1, a2⟩ := ha
  obtain ⟨t2, b1, b2⟩ := hb
  exact ⟨_, pe_cmpR h1 a1 b1 hm, se_op a2 b2 h2⟩
theorem bt_cmp {op : CmpOp} {f : Ct → Ct → Option R} (ho : OpB X (compareOp op) f) (ha : BE X a ma) (hb : BE X b mb) (hm : behindInMarks op b = false := by first | exact nomark _ | with_unfolding_all rfl) : BT X (.Compare a [op] [b] pos) (mB (mOp f ma mb)) := by
  obtain ⟨r, h1, h2⟩ := ho
  obtain ⟨t1, a1, a2⟩ := ha
  obtain ⟨t2, b1, b2⟩ := hb
  exact ⟨_, pt_cmpR h1 a1 b1 hm, st_B (se_op a2 b2 h2)⟩
/-- a test that is its value's truth -/
theorem bt_tru (ha : BE X a ma) (he : ∀ whole, isTrue a X.env whole = (do let v ← whole; standAt a.pos; holding [v] (truthy v)) := by intro _; rfl) : BT X a (mTru ma) := by
  obtain ⟨t, a1, a2⟩ := ha
  exact ⟨_, pt_truth a1 he, st_tru a2⟩
variable {rest : List Expr} {tr : MT}
theorem bw_and1 (ha : BT X a ta) : BW X (.BoolOp .And [a] pos) ta := let ⟨t, h1, h2⟩ := ha; ⟨t, pw_and1 h1, h2⟩
theorem bw_or1 (ha : BT X a ta) : BW X (.BoolOp .Or [a] pos) ta := let ⟨t, h1, h2⟩ := ha; ⟨t, pw_or1 h1, h2⟩
theorem bw_and (ha : BT X a ta) (hb : BW X (.BoolOp .And (b :: rest) pos) tr) : BW X (.BoolOp .And (a :: b :: rest) pos) (mAnd ta tr) := let ⟨t, h1, h2⟩ := ha; let ⟨u, h3, h4⟩ := hb; ⟨_, pw_and h1 h3, st_and h2 h4⟩
theorem bw_or (ha : BT X a ta) (hb : BW X (.BoolOp .Or (b :: rest) pos) tr) : BW X (.BoolOp .Or (a :: b :: rest) pos) (mOr ta tr) := let ⟨t, h1, h2⟩ := ha; let ⟨u, h3, h4⟩ := hb; ⟨_, pw_or h1 h3, st_or h2 h4⟩
theorem bt_w (ha : BW X a ta) : BT X a ta := let ⟨t, h1, h2⟩ := ha; ⟨t, h1.pt, h2⟩
theorem bt_not (ha : BT X a ta) : BT X (.UnaryOp .Not a pos) (mNot ta) := let ⟨t, h1, h2⟩ := ha; ⟨_, pt_not h1, st_not h2⟩
theorem be_one {op} (ha : BE X a ma) : BE X (.BoolOp op [a] pos) ma := let ⟨t, h1, h2⟩ := ha; ⟨_, pe_one h1, h2⟩
theorem be_and (ha : BE X a ma) (hb : BE X (.BoolOp .And (b :: rest) pos) mb) : BE X (.BoolOp .And (a :: b :: rest) pos) (mAndV ma mb) := let ⟨t, h1, h2⟩ := ha; let ⟨u, h3, h4⟩ := hb; ⟨_, pe_and h1 h3, se_andV h2 h4⟩
theorem be_not (ha : BE X a ma) : BE X (.UnaryOp .Not a pos) (mNotV ma) := let ⟨t, h1, h2⟩ := ha; ⟨_, pe_not h1, se_notV h2⟩
theorem be_if (hc : BT X c ta) (ha : BE X a ma) (hb : BE X b mb) : BE X (.IfExp c a b pos) (mIfE ta ma mb) := let ⟨t, h1, h2⟩ := hc; let ⟨u, h3, h4⟩ := ha; let ⟨w, h5, h6⟩ := hb; ⟨_, pe_ifExp h1 h3 h5, se_if h2 h4 h6⟩
variable {es : List Expr} {ml : ML}
theorem bl_nil : BL X [] lNil := ⟨_, pa_nil, sl_nil⟩
theorem bl_cons (ha : BE X a ma) (hr : BL X es ml) (hs : starEach (a :: es) X.env = (false, eval a X.env) :: starEach es X.env := by rfl) : BL X (a :: es) (lCons ma ml) := let ⟨t, h1, h2⟩ := ha; let ⟨u, h3, h4⟩ := hr; ⟨_, pa_cons h1 h3 hs, sl_cons h2 h4⟩
theorem be_tup {k} (h : BL X es ml) : BE X (.Tuple es k pos) (mTup ml) := let ⟨t, h1, h2⟩ := h; ⟨_, pe_tup h1, se_tup h2⟩
theorem be_lst (h : BL X es ml) : BE X (.List es pos) (mLst ml) := let ⟨t, h1, h2⟩ := h; ⟨_, pe_lst h1, se_lst h2⟩
end
end Py
namespace L2
open PySem PySem.Spec PyProof.Rows
theorem tuple_mulS (l : Addr) (items : Array Value) (n : Nat) (dd : Option Addr) (sl : Array (Option Value)) (x : Int) (u : Tok) (c0 : (decide (x < -(2 ^ 63)) || decide (x ≥ 2 ^ 63)) = false) (c1 : (items.isEmpty || x == 1) = true) :
    Meets (Builtin.«tuple.__mul__» ⟨[.ref l, .int x u], []⟩) (fun _ R s => s.heap.get? l = some { cls := .type "tuple", dict := dd, data := .seq items n, slots := sl } ∧ R (.ok (.ret (.ref l))) s) :=
  .of_wp fun prog w A R s h => by
    obtain ⟨hp, g, d, tk, os⟩ := s
    obtain ⟨hl, h⟩ := h
    have f1 := AutoSeq1.idx_int
    wp_walk using wpAny_loadPart' hl
    repeat (first
      | (refine wpAny_ite_false (decide_eq_false (by rw [c0]; exact Bool.false_ne_true)) ?_; wp_walk using wpAny_loadPart' hl)
      | (refine wpAny_ite_true (decide_eq_true c1) ?_; wp_walk using wpAny_loadPart' hl))
    exact ⟨_, rfl, h⟩
theorem tuple_mulE (l : Addr) (items : Array Value) (n : Nat) (dd : Option Addr) (sl : Array (Option Value)) (x : Int) (u : Tok) (c0 : (decide (x < -(2 ^ 63)) || decide (x ≥ 2 ^ 63)) = false) (c1 : (items.isEmpty || x == 1) = false) (c2 : (decide (x ≤ 0) || items.isEmpty) = true) :
    Meets (Builtin.«tuple.__mul__» ⟨[.ref l, .int x u], []⟩) (fun _ R s => s.heap.get? l = some { cls := .type "tuple", dict := dd, data := .seq items n, slots := sl } ∧
      R (.ok (.ret (Value.ref s.heap.objs.size))) { s with heap := s.heap.push { cls := Value.type "tuple", data := Data.seq #[] }, toks := s.toks }) :=
  .of_wp fun prog w A R s h => by
    obtain ⟨hp, g, d, tk, os⟩ := s
    obtain ⟨hl, h⟩ := h
    have f1 := AutoSeq1.idx_int
    wp_walk using wpAny_loadPart' hl
    repeat (first
      | (refine wpAny_ite_false (decide_eq_false (by rw [c0]; exact Bool.false_ne_true)) ?_; wp_walk using wpAny_loadPart' hl)
      | (refine wpAny_ite_false (decide_eq_false (by rw [c1]; exact Bool.false_ne_true)) ?_; wp_walk using wpAny_loadPart' hl)
      | (refine wpAny_ite_true (decide_eq_true c2) ?_; wp_walk using wpAny_loadPart' hl))
    exact ⟨_, rfl, h⟩
def rRepS (K : PySem.W.Frag) : R2 := fun x y H Q => ∃ l k xs, x = .ref l ∧ y = .int k ∧ SqT K H l xs ∧ (xs = [] ∨ k = 1) ∧ -(2 ^ 62) < k ∧ k ≤ 1000 ∧ Q (.ref l) H
def rRepE (K : PySem.W.Frag) : R2 := fun x y H Q => ∃ l k xs, x = .ref l ∧ y = .int k ∧ SqT K H l xs ∧ xs ≠ [] ∧ -(2 ^ 62) < k ∧ k ≤ 0 ∧ ∀ p, H p = none → Q (.ref p) (upd H p (.tup []))
theorem op_repS {X : Cx} : OpR X (binaryOp .Mult) (rRepS X.K) := by
  intro pins s σ H x y v u Q I rx ry h
  obtain ⟨l, k, xs, rfl, rfl, hT, hne, h1, h2, q⟩ := h
  cases rx
  obtain ⟨t, rfl⟩ := ry
  obtain ⟨its, r, ⟨⟨cls, dd, data, sl⟩, ho, hc, n, hd⟩, hs⟩ := I.tuple hT
  simp only at hc hd
  subst hc hd
  have c0 : (decide (k < -(2 ^ 63)) || decide (k ≥ 2 ^ 63)) = false := by
    rw [decide_eq_false (by omega), decide_eq_false (by omega)] <;> rfl
  have c1 : (its.toArray.isEmpty || k == 1) = true := by
    rcases hne with e | e
    · subst e
      have : its = [] := List.eq_nil_of_length_eq_zero (by rw [← r.length]; rfl)
      subst this
      rfl
    · subst e
      simp
  refine wpAny_binaryOp_repeat_ref (T := "tuple") (U := "int") (by decide) ⟨_, ho, rfl⟩ (fun s' => typeIs_int s' k t) noFill_tuple_mul F.fills_int_mul F.slot_int_rmul repeat_tuple F.slot_int_index.lookup
    (call_meets F.slot_int_rmul (typeIs_int s k t) F.entry_int_rmul (F.args_int_rmul_2 _ _) (int_rmul_tuple k t l its.toArray n dd sl)
      ⟨ho, rfl, ⟨_, ho, rfl⟩, call_meets F.slot_tuple_mul ⟨_, ho, rfl⟩ F.entry_tuple_mul (F.args_tuple_mul_2 _ _) (tuple_mulS l its.toArray n dd sl k t c0 c1) ⟨ho, ?_⟩⟩)
  exact ⟨.ref l, H, I, rfl, q⟩
theorem op_repE {X : Cx} : OpR X (binaryOp .Mult) (rRepE X.K) := by
  intro pins s σ H x y v u Q I rx ry h
  obtain ⟨l, k, xs, rfl, rfl, hT, hne, h1, h2, q⟩ := h
  cases rx
  obtain ⟨t, rfl⟩ := ry
  obtain ⟨its, r, ⟨⟨cls, dd, data, sl⟩, ho, hc, n, hd⟩, hs⟩ := I.tuple hT
  simp only at hc hd
  subst hc hd
  have hle : its.length = xs.length := r.length.symm
  have hn : its ≠ [] := fun e => hne (by
    rw [e] at hle
    exact List.eq_nil_of_length_eq_zero hle.symm)
  have hi : its.toArray.isEmpty = false := by
    cases its with
    | nil => exact absurd rfl hn
    | cons a b => rfl
  have c0 : (decide (k < -(2 ^ 63)) || decide (k ≥ 2 ^ 63)) = false := by
    rw [decide_eq_false (by omega), decide_eq_false (by omega)] <;> rfl
  have c1 : (its.toArray.isEmpty || k == 1) = false := by
    rw [hi, Bool.false_or]
    exact beq_eq_false_iff_ne.mpr (by omega)
  have c2 : (decide (k ≤ 0) || its.toArray.isEmpty) = true := by
    rw [decide_eq_true h2]
    rfl
  refine wpAny_binaryOp_repeat_ref (T := "tuple") (U := "int") (by decide) ⟨_, ho, rfl⟩ (fun s' => typeIs_int s' k t) noFill_tuple_mul F.fills_int_mul F.slot_int_rmul repeat_tuple F.slot_int_index.lookup
    (call_meets F.slot_int_rmul (typeIs_int s k t) F.entry_int_rmul (F.args_int_rmul_2 _ _) (int_rmul_tuple k t l its.toArray n dd sl)
      ⟨ho, rfl, ⟨_, ho, rfl⟩, call_meets F.slot_tuple_mul ⟨_, ho, rfl⟩ F.entry_tuple_mul (F.args_tuple_mul_2 _ _) (tuple_mulE l its.toArray n dd sl k t c0 c1 c2) ⟨ho, ?_⟩⟩)
  refine ⟨.ref s.heap.objs.size, _, I.laid (t' := s.toks) (o := .tup []) (fun b ob q => Heap.get?_push_of_some _ q) (Nat.le_refl _) ?_, rfl, q _ (I.hok.fresh (Nat.le_refl _))⟩
  exact ⟨by rw [sizeLine_eq]; exact Nat.zero_le _, [], .nil, IsTup.new _ _⟩
end L2
/-! Py3: operators and built-ins by contents. -/
namespace Py
open PySem PySem.Spec PyProof.Rows L2

/-- a division of any size has room -/
structure DivOk (X : Cx) : Prop where
  seer : X.base.NoSeer
  tree : X.prog.given.tree = none
  deep : X.A.depth + Builtin.pylongFrames < recursionLimit
  top : ∃ env l, X.stack = env :: l ∧ env.scope.isGenerator = false ∧ env.scope.isCoroutine = false ∧ env.builtins = builtinsNs ∧ env.globals = mainGlobals
theorem DivOk.room {X : Cx} (D : DivOk X) {pins : List (Addr × Obj)} {σ : L2.St} {H : Hp} {s : Shared} (I : Inv X pins σ H s) : PylongRoom (model X.prog X.w) X.A s := by
  obtain ⟨env, l, e, h1, h2, h3, h4⟩ := D.top
  exact PylongRoom.of I.nolimit D.deep (SeerAt.of (D.seer.keeps I.bk) D.tree (by rw [I.ok.frames, e]) h1 h2 h3 h4)

section
variable {K : PySem.W.Frag} {Hf H Hf' H' : Hp} {X : Cx}
/-- a value that is there already -/
theorem old {v : PV} {u : V} {Q : VK} (e : Ex Hf H) (d : Dp K Hf u v) (q : ∀ u Hf' H', Step Nobody Hf H Hf' H' → RepR K Hf' H' H [] (.val v) u → Q u H') : Q u H := q u Hf H (.refl e) d
theorem newL {us : List V} {vs : List PV} {Q : VK} (e : Ex Hf H) (d : DpAll K Hf us vs) (q : ∀ u Hf' H', Step Nobody Hf H Hf' H' → RepR K Hf' H' H [] (.new (.lst vs)) u → Q u H') : ∀ p, H p = none → Q (.ref p) (upd H p (.lst us)) := fun p hp => by
  obtain ⟨S, fp⟩ := new_ob (o := .lst us) e hp
  exact q _ _ _ S ⟨p, rfl, hp, fp, us, upd_same, d⟩
theorem newT {us : List V} {vs : List PV} {Q : VK} (e : Ex Hf H) (d : DpAll K Hf us vs) (q : ∀ u Hf' H', Step Nobody Hf H Hf' H' → RepR K Hf' H' H [] (.val (.tuple vs)) u → Q u H') : ∀ p, H p = none → Q (.ref p) (upd H p (.tup us)) := fun p hp => by
  obtain ⟨S, d'⟩ := new_tup e d hp
  exact q _ _ _ S d'
theorem opB_int : ∀ {fn : Value → Value → Sem Value} {C : Int → Int → Prop} {g : Int → Int → V} {f : Ct → Ct → Option R}, OpR X fn (rI C g) →
    (∀ c d z, f c d = some z → ∃ i j v, c = .pv (.int i) ∧ d = .pv (.int j) ∧ C i j ∧ z = .val v ∧ ∀ Hf, Dp X.K Hf (g i j) v) → OpB X fn f := fun h hf => ⟨_, h, fun Hf H c d x y z e hc hd e5 Q q => by
  obtain ⟨i, j, v, rfl, rfl, hC, rfl, hv⟩ := hf c d z e5
  cases hc
  cases hd
  exact ⟨i, j, rfl, rfl, hC, old e (hv Hf) q⟩⟩
theorem opB_int0 {fn : Value → Value → Sem Value} {g : Int → Int → V} {f : Ct → Ct → Option R} (h : OpR X fn (rI0 g))
    (hf : ∀ c d z, f c d = some z → ∃ i j v, c = .pv (.int i) ∧ d = .pv (.int j) ∧ z = .val v ∧ ∀ Hf, Dp X.K Hf (g i j) v) : OpB X fn f := ⟨_, h, fun Hf H c d x y z e hc hd e5 Q q => by
  obtain ⟨i, j, v, rfl, rfl, rfl, hv⟩ := hf c d z e5
  cases hc
  cases hd
  exact ⟨i, j, rfl, rfl, old e (hv Hf) q⟩⟩
theorem cI_some {p : Int → Int → Bool} {c d : Ct} {z : R} (h : cI p c d = some z) : ∃ i j v, c = .pv (.int i) ∧ d = .pv (.int j) ∧ z = .val v ∧ ∀ Hf, Dp K Hf (.bl (p i j)) v := by
  unfold cI at h
  split at h
  · cases h; exact ⟨_, _, _, rfl, rfl, rfl, fun _ => .bl _⟩
  · cases h
theorem ob_lt : OpB X (compareOp .Lt) fLt := opB_int0 op_lt fun _ _ _ h => cI_some h
theorem ob_gt : OpB X (compareOp .Gt) fGt := opB_int0 op_gt fun _ _ _ h => cI_some h
theorem ob_ge : OpB X (compareOp .GtE) fGe := opB_int0 op_ge fun _ _ _ h => cI_some h
theorem ob_sub : OpB X (binaryOp .Sub) fSub := opB_int0 op_sub fun c d z h => by
  unfold fSub at h
  split at h
  · cases h; exact ⟨_, _, _, rfl, rfl, rfl, fun _ => .int _⟩
  · cases h
def rAddAll (K : PySem.W.Frag) : R2 := fun x y H Q => rI0 (fun i j => .int (i + j)) x y H Q ∨ (∃ i j, x = .str i ∧ y = .str j ∧ i.length + j.length ≤ sizeLine ∧ Q (.str (i ++ j)) H) ∨ rCatA K x y H Q ∨ rCat x y H Q
theorem add_all {fn : Value → Value → Sem Value} (h1 : OpR X fn (rI0 fun i j => .int (i + j))) (h2 : OpR X fn (fun x y H Q => ∃ i j, x = .str i ∧ y = .str j ∧ i.length + j.length ≤ sizeLine ∧ Q (.str (i ++ j)) H)) (h3 : OpR X fn (rCatA X.K)) (h4 : OpR X fn rCat) :
    OpR X fn (rAddAll X.K) := h1.or (h2.or (h3.or h4))
theorem add_S : OpS K (rAddAll K) fAdd := fun Hf H c d x y z e hc hd e5 Q q => by
  unfold fAdd at e5
  split at e5
  · cases e5; cases hc; cases hd; exact .inl ⟨_, _, rfl, rfl, old e (.int _) q⟩
  · split at e5
    · rename_i hz; cases e5; cases hc; cases hd; exact .inr (.inl ⟨_, _, rfl, rfl, by rw [← line_eq]; exact hz, old e (.str _) q⟩)
    · cases e5
  · rename_i xs ys
    split at e5
    · rename_i hz
      cases e5
      cases hc with
      | @tup a us _ hs ha =>
        cases hd with
        | @tup b ws _ hs2 hb =>
          refine .inr (.inr (.inl ⟨a, b, us, ws, rfl, rfl, ex_t e hs, ex_t e hs2, by rw [dps_len ha, dps_len hb, ← line_eq]; exact hz, fun h0 => ?_, fun _ h0 => ?_, fun _ _ => newT e (dps_app ha hb) q⟩))
          · have e0 : xs = [] := List.eq_nil_of_length_eq_zero (by rw [← dps_len ha, h0]; rfl)
            rw [e0] at q
            exact old e (.tup hs2 hb) q
          · have e0 : ys = [] := List.eq_nil_of_length_eq_zero (by rw [← dps_len hb, h0]; rfl)
            rw [e0, List.append_nil] at q
            exact old e (.tup hs ha) q
    · cases e5
  · rename_i xs ys
    split at e5
    · rename_i hz
      cases e5
      obtain ⟨a, rfl, us, h1, d1⟩ := hc
      obtain ⟨b, rfl, ws, h2, d2⟩ := hd
      exact .inr (.inr (.inr ⟨a, b, us, ws, rfl, rfl, h1, h2, by rw [dps_len d1, dps_len d2, ← line_eq]; exact hz, newL e (dps_app d1 d2) q⟩))
    · cases e5
  all_goals cases e5
theorem ob_add : OpB X (binaryOp .Add) fAdd := ⟨_, add_all op_add op_add_str op_catA op_cat, add_S⟩
theorem mulOk_ok {i j : Int} (h : mulOk i j = true) : IntMulOk i j := by
  have h' : i.natAbs.log2 + j.natAbs.log2 < 100000000 := of_decide_eq_true h
  have b : ∀ x : Int, Builtin.Int.intBits x ≤ x.natAbs.log2 + 1 := fun x => by
    unfold Builtin.Int.intBits
    split <;> omega
  have h1 := b i
  have h2 := b j
  have e : bitsLine = 134217728 := by decide
  unfold IntMulOk
  intro z
  have z2 := (Bool.and_eq_true_iff.mp z).2
  unfold Builtin.Int.intTooBig at z2
  have z3 := of_decide_eq_true z2
  rw [e] at z3
  omega
theorem op_mulB : OpR X (binaryOp .Mult) (rI (fun i j => mulOk i j = true) fun i j => .int (i * j)) := opI fun _ _ _ _ _ _ _ hc q => mul_int q (mulOk_ok hc)
theorem mul_S : OpS K (fun x y H Q => rI (fun i j => mulOk i j = true) (fun i j => .int (i * j)) x y H Q ∨ rRep x y H Q ∨ rRepT K x y H Q ∨ rRepS K x y H Q ∨ rRepE K x y H Q) fMul := fun Hf H c d x y z e hc hd e5 Q q => by
  unfold fMul at e5
  split at e5
  · split at e5
    · rename_i hz; cases e5; cases hc; cases hd; exact .inl ⟨_, _, rfl, rfl, hz, old e (.int _) q⟩
    · cases e5
  · rename_i xs k
    split at e5
    · rename_i hz
      cases e5
      cases hd
      have hc' := hc
      cases hc with
      | @tup a us _ hs ha =>
        by_cases h1 : xs = [] ∨ k = 1
        · have eq : (List.replicate k.toNat xs).flatten = xs := by
            rcases h1 with h1 | h1
            · subst h1; simp
            · subst h1; simp
          rw [eq] at q
          refine .inr (.inr (.inr (.inl ⟨a, k, us, rfl, rfl, ex_t e hs, ?_, hz.1, hz.2.1, old e hc' q⟩)))
          rcases h1 with h1 | h1
          · left
            subst h1
            exact List.eq_nil_of_length_eq_zero (by rw [dps_len ha]; rfl)
          · exact .inr h1
        · have hne : us ≠ [] := fun z => h1 (.inl (List.eq_nil_of_length_eq_zero (by rw [← dps_len ha, z]; rfl)))
          by_cases h2 : 2 ≤ k
          · exact .inr (.inr (.inl ⟨a, k, us, rfl, rfl, ex_t e hs, hne, h2, hz.2.1, by rw [dps_len ha]; exact hz.2.2, newT e (dps_rep ha _) q⟩))
          · have h3 : k ≤ 0 := by
              have : k ≠ 1 := fun e => h1 (.inr e)
              omega
            have eq : (List.replicate k.toNat xs).flatten = [] := by
              have : k.toNat = 0 := by omega
              rw [this]; rfl
            rw [eq] at q
            exact .inr (.inr (.inr (.inr ⟨a, k, us, rfl, rfl, ex_t e hs, hne, hz.1, h3, newT e .nil q⟩)))
    · cases e5
  · rename_i xs k
    split at e5
    · rename_i hz
      cases e5
      obtain ⟨a, rfl, us, h1, d1⟩ := hc
      cases hd
      exact .inr (.inl ⟨a, k, us, rfl, rfl, h1, by omega, by omega, by rw [dps_len d1, ← line_eq]; exact hz.1, newL e (dps_rep d1 _) q⟩)
    · cases e5
  all_goals cases e5
theorem ob_mul : OpB X (binaryOp .Mult) fMul := ⟨_, op_mulB.or (op_rep.or (op_repT.or (op_repS.or op_repE))), mul_S⟩
theorem op_divB (D : DivOk X) : OpR X (binaryOp .FloorDiv) (rI (fun _ j => j ≠ 0) fun i j => .int (i.fdiv j)) := by
  intro pins s σ H x y v u Q I rx ry h
  obtain ⟨i, j, rfl, rfl, hc, q⟩ := h
  obtain ⟨t, rfl⟩ := rx
  obtain ⟨t', rfl⟩ := ry
  exact floordiv_int hc ⟨.int (i.fdiv j), H, I.tok _, ⟨_, rfl⟩, q⟩ (.inr (D.room I))
theorem div_some {c d : Ct} {z : R} (h : fDiv c d = some z) : ∃ i j v, c = .pv (.int i) ∧ d = .pv (.int j) ∧ j ≠ 0 ∧ z = .val v ∧ ∀ Hf, Dp K Hf (.int (i.fdiv j)) v := by
  unfold fDiv at h
  split at h
  · split at h
    · cases h
    · rename_i hj; cases h; exact ⟨_, _, _, rfl, rfl, hj, rfl, fun _ => .int _⟩
  · cases h
theorem ob_div (D : DivOk X) : OpB X (binaryOp .FloorDiv) fDiv := opB_int (op_divB D) fun _ _ _ h => div_some h
theorem ob_mod : OpB X (binaryOp .Mod) fMod := opB_int op_modN fun c d z h => by
  unfold fMod at h
  split at h
  · split at h
    · cases h
    · rename_i hj; cases h; exact ⟨_, _, _, rfl, rfl, hj, rfl, fun _ => .int _⟩
  · cases h
theorem ob_pow : OpB X (binaryOp .Pow) fPow := opB_int op_pow fun c d z h => by
  unfold fPow at h
  split at h
  · split at h
    · rename_i hj; cases h; exact ⟨_, _, _, rfl, rfl, hj, rfl, fun _ => .int _⟩
    · cases h
  · cases h
/-! ### == -/
theorem eqD_S {neg : Bool} : OpS K (fun x y H Q => (if neg then rNe else rEq) x y H Q ∨ (if neg then rNeD K else rEqD K) x y H Q) (eqD neg) := fun Hf H c d x y z e hc hd e5 Q q => by
  unfold eqD at e5
  have sc : ∀ {a b : V} {k : Bool}, scal a b = true → decide (a = b) = k → (∀ u Hf' H', Step Nobody Hf H Hf' H' → RepR K Hf' H' H [] (.val (.bool (neg ^^ k))) u → Q u H') → (if neg then rNe else rEq) a b H Q := fun {a b k} h1 h2 q => by
    cases neg with
    | true => exact ⟨h1, by rw [h2]; have := old e (.bl (true ^^ k)) q; simpa using this⟩
    | false => exact ⟨h1, by rw [h2]; have := old e (.bl (false ^^ k)) q; simpa using this⟩
  split at e5
  · cases e5; cases hc; cases hd; exact .inl (sc rfl (by simp) q)
  · cases e5; cases hc; cases hd; exact .inl (sc rfl dec_bl q)
  · cases e5; cases hc; cases hd; exact .inl (sc rfl (by simp) q)
  · split at e5
    · rename_i hz
      cases e5
      refine .inr ?_
      cases neg with
      | true => exact ⟨_, _, dp_mono e _ _ hc, dp_mono e _ _ hd, hz.1, hz.2, by have := old e (.bl _) q; simpa using this⟩
      | false => exact ⟨_, _, dp_mono e _ _ hc, dp_mono e _ _ hd, hz.1, hz.2, by have := old e (.bl _) q; simpa using this⟩
    · cases e5
  · cases e5
theorem ob_eq (hu : X.A.units + 64 < cLine) : OpB X (compareOp .Eq) fEq := ⟨_, op_eq.or (op_eqD hu), eqD_S (neg := false)⟩
theorem ob_ne (hu : X.A.units + 64 < cLine) : OpB X (compareOp .NotEq) fNe := ⟨_, op_ne.or (op_neD hu), eqD_S (neg := true)⟩
theorem isNone_of {v : PV} {u : V} (d : Dp K Hf u v) : decide (u = .non) = isNone v := by
  cases d <;> rfl
theorem is_S {neg : Bool} : OpS K (fun x y H Q => y = .non ∧ Q (.bl (neg ^^ decide (x = .non))) H) (fIs neg) := fun Hf H c d x y z e hc hd e5 Q q => by
  unfold fIs at e5
  split at e5
  · cases e5
    cases hd
    refine ⟨rfl, ?_⟩
    rw [isNone_of hc]
    exact old e (.bl _) q
  · cases e5
    cases hd
    obtain ⟨p, rfl, _⟩ := hc
    refine ⟨rfl, ?_⟩
    have := old e (.bl neg) q
    simpa using this
  · cases e5
theorem ob_is : OpB X (compareOp .Is) (fIs false) := by
  refine ⟨_, ?_, is_S⟩
  have h := op_isN (X := X)
  intro pins s σ H x y v u Q I rx ry hq
  exact h pins s σ H x y v u Q I rx ry ⟨hq.1, by simpa using hq.2⟩
theorem ob_isNot : OpB X (compareOp .IsNot) (fIs true) := by
  refine ⟨_, ?_, is_S⟩
  have h := op_notN (X := X)
  intro pins s σ H x y v u Q I rx ry hq
  exact h pins s σ H x y v u Q I rx ry ⟨hq.1, by simpa using hq.2⟩

/-! ### one place -/
theorem be_neg {a : Expr} {ma : M} {pos : Pos} (ha : BE X a ma) : BE X (.UnaryOp .USub a pos) (mUn fNeg ma) := by
  obtain ⟨t, h1, h2⟩ := ha
  refine ⟨_, pe_un un_neg h1, se_un h2 fun Hf H c x z e hc e5 Q q => ?_⟩
  unfold fNeg at e5
  split at e5
  · cases e5; cases hc; exact ⟨_, rfl, old e (.int _) q⟩
  · cases e5
/-- a built-in of one argument -/
theorem se_call1 {te : TE} {m : M} {r : List V → Hp → VK → Prop} {f : Ct → Option R} (ha : SE K te m) (hr : UnS K (fun x H Q => r [x] H Q) f) : SE K (tCB r (tCons te tNil)) (mUn f m) := se_un ha hr
theorem se_call2 {te tu : TE} {m n : M} {r : List V → Hp → VK → Prop} {f : Ct → Ct → Option R} (ha : SE K te m) (hb : SE K tu n) (hr : OpS K (fun x y H Q => r [x, y] H Q) f) : SE K (tCB r (tCons te (tCons tu tNil))) (mOp f m n) := se_op ha hb hr
structure C1 (X : Cx) (f : Value) (g : Ct → Option R) : Prop where
  ex : ∃ r, CallR X f r ∧ UnS X.K (fun x H Q => r [x] H Q) g
structure C2 (X : Cx) (f : Value) (g : Ct → Ct → Option R) : Prop where
  ex : ∃ r, CallR X f r ∧ OpS X.K (fun x y H Q => r [x, y] H Q) g
variable {a b : Expr} {ma mb : M} {x : Str} {p pos : Pos} {id : String} {g : Ct → Option R} {g2 : Ct → Ct → Option R}
theorem be_b1 (hc : C1 X (.builtin id) g) (hg : Gl X x) (hm : X.mg x = none) (hv : bootBuiltins x = some (.builtin id)) (ha : BE X a ma) (hn : x ≠ "__name__" := by decide) (hdb : (x == ("__debug__" : Str)) = false := by decide)
    (hs : starEach [a] X.env = (false, eval a X.env) :: starEach [] X.env := by rfl) (hp : (backTo pos (starEach [] X.env)).any (·.1) = false := by rfl) : BE X (.Call (.Name x p) [a] [] pos) (mUn g ma) := by
  obtain ⟨r, h1, h2⟩ := hc
  obtain ⟨t, a1, a2⟩ := ha
  exact ⟨_, pe_callB h1 hg hm hv (pa_cons a1 pa_nil hs) hn hdb hs hp, se_call1 a2 h2⟩
theorem be_t1 {T : String} (hc : C1 X (.type T) g) (hg : Gl X x) (hm : X.mg x = none) (hv : bootBuiltins x = some (.type T)) (ha : BE X a ma) (hn : x ≠ "__name__" := by decide) (hdb : (x == ("__debug__" : Str)) = false := by decide)
    (hs : starEach [a] X.env = (false, eval a X.env) :: starEach [] X.env := by rfl) (hp : (backTo pos (starEach [] X.env)).any (·.1) = false := by rfl) : BE X (.Call (.Name x p) [a] [] pos) (mUn g ma) := by
  obtain ⟨r, h1, h2⟩ := hc
  obtain ⟨t, a1, a2⟩ := ha
  exact ⟨_, pe_callTy h1 hg hm hv (pa_cons a1 pa_nil hs) hn hdb hs hp, se_call1 a2 h2⟩
theorem be_b2 (hc : C2 X (.builtin id) g2) (hg : Gl X x) (hm : X.mg x = none) (hv : bootBuiltins x = some (.builtin id)) (ha : BE X a ma) (hb : BE X b mb) (hn : x ≠ "__name__" := by decide) (hdb : (x == ("__debug__" : Str)) = false := by decide)
    (hs : starEach [a, b] X.env = (false, eval a X.env) :: starEach [b] X.env := by rfl) (hs2 : starEach [b] X.env = (false, eval b X.env) :: starEach [] X.env := by rfl) (hp : (backTo pos (starEach [b] X.env)).any (·.1) = false := by rfl) : BE X (.Call (.Name x p) [a, b] [] pos) (mOp g2 ma mb) := by
  obtain ⟨r, h1, h2⟩ := hc
  obtain ⟨t, a1, a2⟩ := ha
  obtain ⟨u, b1, b2⟩ := hb
  exact ⟨_, pe_callB h1 hg hm hv (pa_cons a1 (pa_cons b1 pa_nil hs2) hs) hn hdb hs hp, se_call2 a2 b2 h2⟩
theorem c_len : C1 X (.builtin "len") fLen := ⟨_, call_len, fun Hf H c x z e hc e5 Q q => by
  unfold fLen at e5
  split at e5
  · cases e5; cases hc with | tup hs ha => exact ⟨_, _, rfl, .inr ⟨_, ex_t e hs, rfl⟩, by rw [dps_len ha]; exact old e (.int _) q⟩
  · cases e5; cases hc with | lst hs ha => exact ⟨_, _, rfl, .inl ⟨_, ex_l e hs, rfl⟩, by rw [dps_len ha]; exact old e (.int _) q⟩
  · split at e5
    · rename_i hz; cases e5; cases hc; exact ⟨_, _, rfl, ⟨by rw [← line_eq]; exact hz, rfl⟩, old e (.int _) q⟩
    · cases e5
  · cases e5; obtain ⟨a, rfl, us, h1, d1⟩ := hc; exact ⟨_, _, rfl, .inl ⟨_, SqL.of h1, rfl⟩, by rw [dps_len d1]; exact old e (.int _) q⟩
  · cases e5⟩
theorem c_int : C1 X (.type "int") fInt := ⟨_, call_int1, fun Hf H c x z e hc e5 Q q => by
  unfold fInt at e5
  split at e5
  · cases e5; cases hc; exact .inl ⟨_, rfl, old e (.int _) q⟩
  · cases e5; cases hc; exact .inr ⟨_, rfl, old e (.int _) q⟩
  · cases e5⟩
theorem c_min2 (hc : X.calm = true) : C2 X (.builtin "min") fMin2 := ⟨_, call_min2 hc, fun Hf H c d x y z e hc hd e5 Q q => by
  unfold fMin2 at e5
  split at e5
  · cases e5; cases hc; cases hd; exact ⟨_, _, rfl, old e (.int _) q⟩
  · cases e5⟩
theorem c_tuple : C1 X (.type "tuple") fTuple := ⟨_, call_tuple_of, fun Hf H c x z e hc e5 Q q => by
  unfold fTuple at e5
  split at e5
  · cases e5; cases hc with | tup hs ha => exact ⟨_, _, rfl, .inr ⟨ex_t e hs, old e (.tup hs ha) q⟩⟩
  · cases e5; cases hc with | lst hs ha => exact ⟨_, _, rfl, .inl ⟨ex_l e hs, newT e ha q⟩⟩
  · cases e5; obtain ⟨a, rfl, us, h1, d1⟩ := hc; exact ⟨_, _, rfl, .inl ⟨SqL.of h1, newT e d1 q⟩⟩
  · cases e5⟩
theorem c_list : C1 X (.type "list") fList := ⟨_, call_list_of, fun Hf H c x z e hc e5 Q q => by
  unfold fList at e5
  split at e5
  · cases e5; cases hc with | tup hs ha => exact ⟨_, _, rfl, .inr (ex_t e hs), newL e ha q⟩
  · cases e5; cases hc with | lst hs ha => exact ⟨_, _, rfl, .inl (ex_l e hs), newL e ha q⟩
  · cases e5; obtain ⟨a, rfl, us, h1, d1⟩ := hc; exact ⟨_, _, rfl, .inl (SqL.of h1), newL e d1 q⟩
  · cases e5⟩
/-! lists of ints, of bools -/
theorem lst_ok {c : Ct} {xs : List PV} {u : V} (e : Ex Hf H) (hc : RepC K Hf H c u) (h : c.lst? = some xs) : ∃ a us, u = .ref a ∧ SqL K H a us ∧ DpAll K Hf us xs := by
  unfold Ct.lst? at h
  split at h
  · cases h; cases hc with | lst hs ha => exact ⟨_, _, rfl, ex_l e hs, ha⟩
  · cases h; obtain ⟨a, rfl, us, h1, d1⟩ := hc; exact ⟨_, _, rfl, SqL.of h1, d1⟩
  · cases h
theorem ints_ok : ∀ {xs : List PV} {ns : List Int} {us : List V}, ints? xs = some ns → DpAll K Hf us xs → us = ns.map V.int
  | [], ns, us, h, d => by cases d; simp [ints?] at h; subst h; rfl
  | x :: xs, ns, us, h, d => by
    simp only [ints?, List.mapM_cons, Option.bind_eq_bind, Option.bind_eq_some_iff, Option.pure_def, Option.some.injEq] at h
    obtain ⟨n, h1, ms, h2, rfl⟩ := h
    cases d with
    | cons d1 d2 =>
      unfold intV? at h1
      split at h1
      · cases h1; cases d1; rw [ints_ok (ns := ms) h2 d2]; rfl
      · cases h1
theorem bools_ok : ∀ {xs : List PV} {ns : List Bool} {us : List V}, bools? xs = some ns → DpAll K Hf us xs → us = ns.map V.bl
  | [], ns, us, h, d => by cases d; simp [bools?] at h; subst h; rfl
  | x :: xs, ns, us, h, d => by
    simp only [bools?, List.mapM_cons, Option.bind_eq_bind, Option.bind_eq_some_iff, Option.pure_def, Option.some.injEq] at h
    obtain ⟨n, h1, ms, h2, rfl⟩ := h
    cases d with
    | cons d1 d2 =>
      unfold boolV? at h1
      split at h1
      · cases h1; cases d1; rw [bools_ok (ns := ms) h2 d2]; rfl
      · cases h1
theorem dps_ints : ∀ ns : List Int, DpAll K Hf (ns.map V.int) (ns.map PyData.int)
  | [] => .nil
  | n :: ns => .cons (.int n) (dps_ints ns)
theorem c_any (hc : X.calm = true) : C1 X (.builtin "any") fAny := ⟨_, cr_any hc, fun Hf H c x z e hc e5 Q q => by
  simp only [fAny, Option.bind_eq_some_iff, Option.map_eq_some_iff] at e5
  obtain ⟨xs, h1, ns, h2, rfl⟩ := e5
  obtain ⟨a, us, rfl, hs, d⟩ := lst_ok e hc h1
  rw [bools_ok h2 d] at hs
  exact ⟨a, ns, rfl, hs, old e (.bl _) q⟩⟩
theorem minF_le : ∀ (r : List Int) (x y : Int), (x ≤ y ∨ y ∈ r) → r.foldl min x ≤ y
  | [], x, y, h => by rcases h with h | h; exact h; cases h
  | a :: r, x, y, h => by
    refine minF_le r (min x a) y ?_
    rcases h with h | h
    · exact .inl (by omega)
    · rcases List.mem_cons.mp h with h | h
      · exact .inl (by omega)
      · exact .inr h
theorem minL_le {ns : List Int} {y : Int} (h : y ∈ ns) : minL ns ≤ y := by
  cases ns with
  | nil => cases h
  | cons x r =>
    rcases List.mem_cons.mp h with h | h
    · exact minF_le r x y (.inl (by omega))
    · exact minF_le r x y (.inr h)
theorem minF_mem : ∀ (r : List Int) (x : Int), r.foldl min x = x ∨ r.foldl min x ∈ r
  | [], x => .inl rfl
  | a :: r, x => by
    rcases minF_mem r (min x a) with h | h
    · by_cases hx : x ≤ a
      · exact .inl (by rw [List.foldl_cons, h]; omega)
      · exact .inr (by rw [List.foldl_cons, h]; have : min x a = a := by omega
                       rw [this]; exact List.mem_cons_self)
    · exact .inr (List.mem_cons_of_mem _ h)
theorem minL_mem {ns : List Int} (h : ns ≠ []) : minL ns ∈ ns := by
  cases ns with
  | nil => exact absurd rfl h
  | cons x r =>
    rcases minF_mem r x with e | e
    · show r.foldl min x ∈ _; rw [e]; exact List.mem_cons_self
    · exact List.mem_cons_of_mem _ e
theorem c_min (hc : X.calm = true) : C1 X (.builtin "min") fMin := ⟨_, cr_min hc, fun Hf H c x z e hc e5 Q q => by
  simp only [fMin, Option.bind_eq_some_iff] at e5
  obtain ⟨xs, h1, ns, h2, h3⟩ := e5
  split at h3
  · cases h3
  · rename_i hne
    cases h3
    obtain ⟨a, us, rfl, hs, d⟩ := lst_ok e hc h1
    rw [ints_ok h2 d] at hs
    refine ⟨a, ns, rfl, hs, List.length_pos_iff.mpr hne, fun m m1 m2 => ?_⟩
    have em : m = minL ns := Int.le_antisymm (m2 _ (minL_mem hne)) (minL_le m1)
    rw [em]
    exact old e (.int _) q⟩
/-! isinstance -/
def Ty.nm : Ty → String
  | .bool => "bool" | .int => "int" | .str => "str" | .tuple => "tuple"
theorem ty_tup {a : Addr} {us : List V} (h : SqT K H a us) : TyX K H (.ref a) (.type "tuple") := by
  rcases h with (h | ⟨o, h⟩) | ⟨o, its, n, h1, h2, _⟩
  · exact .base (.tup h)
  · exact .fTuple h
  · exact .kTuple h1 h2
theorem ty_lst {a : Addr} {us : List V} (h : SqL K H a us) : TyX K H (.ref a) (.type "list") := by
  rcases h with (h | ⟨o, h⟩) | ⟨o, its, n, h1, h2, _⟩
  · exact .base (.lst h)
  · exact .base (.frz h)
  · exact .kList h1 h2
def tyNm : PV → String
  | .none => "NoneType" | .bool _ => "bool" | .int _ => "int" | .str _ => "str" | .list _ => "list" | .tuple _ => "tuple" | .dict _ => "dict"
theorem kit_v (t : Ty) (v : PV) : PySem.W.kitOne K (.type (tyNm v)) (.type t.nm) = some (isTy t v) := by
  cases t <;> cases v <;> (refine kit_ty ?_; dsimp only [tyNm, Ty.nm, isTy]; decide +kernel)
theorem kit_l (t : Ty) : PySem.W.kitOne K (.type "list") (.type t.nm) = some false := by cases t <;> exact kit_ty (by decide +kernel)
theorem ty_v {v : PV} {u : V} (d : Dp K H u v) : TyX K H u (.type (tyNm v)) := by
  cases d with
  | non => exact .base .non
  | bl b => exact .base (.bl b)
  | int i => exact .base (.int i)
  | str x => exact .base (.str x)
  | lst h _ => exact ty_lst h
  | tup h _ => exact ty_tup h
theorem isi_S {t : Ty} : UnS K (fun x H Q => rIsi K [x, .ty t.nm] H Q) (fIsi t) := fun Hf H c x z e hc e5 Q q => by
  unfold fIsi at e5
  split at e5
  · cases e5
    exact ⟨x, _, _, _, _, rfl, .ty _, ty_v (dp_mono e _ _ hc), kit_v t _, old e (.bl _) q⟩
  · cases e5
    obtain ⟨p, rfl, vs, h1, _⟩ := hc
    exact ⟨_, _, _, _, _, rfl, .ty _, .base (.lst h1), kit_l t, old e (.bl _) q⟩
  · cases e5
/-- isinstance(e, T) -/
theorem be_isi (t : Ty) {y : Str} {p' : Pos} (hg : Gl X x) (hm : X.mg x = none) (hv : bootBuiltins x = some (.builtin "isinstance")) (hg' : Gl X y) (hm' : X.mg y = none) (hv' : bootBuiltins y = some (.type t.nm)) (ha : BE X a ma) (hn : x ≠ "__name__" := by decide) (hdb : (x == ("__debug__" : Str)) = false := by decide)
    (hn' : y ≠ "__name__" := by decide) (hdb' : (y == ("__debug__" : Str)) = false := by decide)
    (hs : starEach [a, .Name y p'] X.env = (false, eval a X.env) :: starEach [.Name y p'] X.env := by rfl) (hs2 : starEach [.Name y p'] X.env = (false, eval (.Name y p') X.env) :: starEach [] X.env := by rfl) (hp : (backTo pos (starEach [.Name y p'] X.env)).any (·.1) = false := by rfl) :
    BE X (.Call (.Name x p) [a, .Name y p'] [] pos) (mUn (fIsi t) ma) := by
  obtain ⟨te, a1, a2⟩ := ha
  exact ⟨_, pe_callB call_isi hg hm hv (pa_cons a1 (pa_cons (pe_bltn (v := .ty t.nm) hg' hm' hv' rfl hn' hdb') pa_nil hs2) hs) hn hdb hs hp, se_un a2 isi_S⟩

/-! ### items, slices -/
theorem ixN_eq (n : Nat) (i : Int) : ixN n i = L2.ixN n i := rfl
theorem at_ok {xs : List PV} {us : List V} {i : Int} {v : PV} (d : DpAll K Hf us xs) (h : atI xs i = some v) : ∃ u, L2.atI us i = some u ∧ Dp K Hf u v := by
  unfold atI at h
  rw [Option.bind_eq_some_iff] at h
  obtain ⟨j, h1, h2⟩ := h
  obtain ⟨u, h3, h4⟩ := dps_get d h2
  refine ⟨u, ?_, h4⟩
  unfold L2.atI
  rw [dps_len d, ← ixN_eq, h1]
  exact h3
theorem ix_S : OpS K (rIx K) fIx := fun Hf H c d x y z e hc hd e5 Q q => by
  unfold fIx at e5
  split at e5
  · rw [Option.map_eq_some_iff] at e5
    obtain ⟨v, h1, rfl⟩ := e5
    cases hd
    cases hc with
    | tup hs ha =>
      obtain ⟨u, h2, h3⟩ := at_ok ha h1
      exact .inr (.inl ⟨_, _, _, u, rfl, rfl, ex_t e hs, h2, old e h3 q⟩)
  · rw [Option.map_eq_some_iff] at e5
    obtain ⟨v, h1, rfl⟩ := e5
    cases hd
    cases hc with
    | lst hs ha =>
      obtain ⟨u, h2, h3⟩ := at_ok ha h1
      exact .inl ⟨_, _, _, u, rfl, rfl, ex_l e hs, h2, old e h3 q⟩
  · rw [Option.map_eq_some_iff] at e5
    obtain ⟨v, h1, rfl⟩ := e5
    cases hd
    obtain ⟨p, rfl, us, h4, ha⟩ := hc
    obtain ⟨u, h2, h3⟩ := at_ok ha h1
    exact .inl ⟨_, _, _, u, rfl, rfl, SqL.of h4, h2, old e h3 q⟩
  · split at e5
    · rename_i hz
      rw [Option.map_eq_some_iff] at e5
      obtain ⟨v, h1, rfl⟩ := e5
      cases hc
      cases hd
      refine .inr (.inr ⟨_, _, v, rfl, rfl, by rw [← line_eq]; exact hz, ?_, old e (.str _) q⟩)
      unfold L2.atI
      rw [Option.bind_eq_some_iff] at h1 ⊢
      obtain ⟨j, h2, h3⟩ := h1
      exact ⟨j, h2, by simpa using h3⟩
    · cases e5
  · cases e5
theorem be_ix (ha : BE X a ma) (hb : BE X b mb) (hs : PlainIx b := by intro _ _; rfl) : BE X (.Subscript a b pos) (mOp fIx ma mb) := by
  obtain ⟨t, a1, a2⟩ := ha
  obtain ⟨u, b1, b2⟩ := hb
  exact ⟨_, pe_ix ix_seq a1 b1 hs, se_op a2 b2 ix_S⟩
structure BO (X : Cx) (e : Option Expr) (m : MO) : Prop where
  ex : ∃ t, PO X e t ∧ ∀ (ρ : Env) (r : Option Int) (ρ' : Env) (σ : L2.St) (Hf H : Hp), m ρ = some (r, ρ') → RepE X.K Hf H ρ σ → ∀ Q : Option Int → Hp → Prop,
    (∀ Hf' H', Step (Own ρ σ) Hf H Hf' H' → RepE X.K Hf' H' ρ' σ → Kp ρ ρ' → Q r H') → t σ H Q
theorem bo_none : BO X none oNone := ⟨_, po_none, fun ρ r ρ' σ Hf H hm E Q q => by cases hm; exact q Hf H (.refl E.ff) E .refl⟩
theorem bo_some (ha : BE X a ma) : BO X (some a) (oSome ma) := by
  obtain ⟨t, a1, a2⟩ := ha
  refine ⟨_, po_some a1, fun ρ r ρ' σ Hf H hm E Q q => ?_⟩
  simp only [oSome, Option.bind_eq_some_iff, Option.map_eq_some_iff, Prod.mk.injEq] at hm
  obtain ⟨⟨x, ρ1⟩, e1, c, e3, i, e5, rfl, rfl⟩ := hm
  refine a2 ρ x ρ1 σ Hf H e1 E _ fun u Hf1 H1 S1 E1 R1 k1 => ?_
  have hc := look_ok E1 R1 e3
  unfold intOf at e5
  split at e5
  · cases e5; cases hc; exact ⟨i, rfl, q Hf1 H1 S1 E1 k1⟩
  · cases e5
theorem cut_ok {xs : List PV} {us : List V} {lo hi : Option Int} (d : DpAll K Hf us xs) : DpAll K Hf (cutV us lo hi) (cut xs lo hi) := by
  unfold cut cutV
  rw [dps_len d]
  have e1 : ∀ n d o, sIx n d o = HT.sIx n d o := fun n d o => by cases o <;> rfl
  rw [e1, e1]
  exact dps_take _ (dps_drop _ d)
theorem sl_S {lo hi : Option Int} : UnS K (fun x H Q => rSlL K x lo hi H Q ∨ rSlA K x lo hi H Q) (fSl lo hi) := fun Hf H c x z e hc e5 Q q => by
  unfold fSl at e5
  split at e5
  · rename_i xs
    cases e5
    cases hc with
    | @tup a us _ hs ha =>
      refine .inr ⟨a, us, rfl, ex_t e hs, fun ⟨h1, h2⟩ => ?_, fun _ => newT e (cut_ok ha) q⟩
      have e1 : cut xs lo hi = xs := by
        have e1 : ∀ n d o, sIx n d o = HT.sIx n d o := fun n d o => by cases o <;> rfl
        unfold cut
        rw [e1, e1, ← dps_len ha, h1, h2, dps_len ha]
        simp
      rw [e1] at q
      exact old e (.tup hs ha) q
  · cases e5
    cases hc with
    | lst hs ha => exact .inl ⟨_, _, rfl, ex_l e hs, newL e (cut_ok ha) q⟩
  · cases e5
    obtain ⟨p, rfl, us, h4, ha⟩ := hc
    exact .inl ⟨_, _, rfl, SqL.of h4, newL e (cut_ok ha) q⟩
  · cases e5
theorem be_sl {lo hi : Option Expr} {ml mh : MO} {p2 : Pos} (ha : BE X a ma) (hl : BO X lo ml) (hh : BO X hi mh) : BE X (.Subscript a (.Slice lo hi none p2) pos) (mSl ma ml mh) := by
  obtain ⟨t, a1, a2⟩ := ha
  obtain ⟨tl, l1, l2⟩ := hl
  obtain ⟨th, h1, h2⟩ := hh
  refine ⟨_, pe_slice (sl_list.or sl_tupA) a1 l1 h1, fun ρ r ρ' σ Hf H hm E Q q => ?_⟩
  simp only [mSl, Option.bind_eq_some_iff, Option.map_eq_some_iff, Prod.mk.injEq] at hm
  obtain ⟨⟨x, ρ1⟩, e1, ⟨i, ρ2⟩, e2, ⟨j, ρ3⟩, e3, c, e4, z, e5, rfl, rfl⟩ := hm
  refine a2 ρ x ρ1 σ Hf H e1 E _ fun u Hf1 H1 S1 E1 R1 k1 => ?_
  have B1 : Bh X.K Hf H ρ σ Hf1 H1 ρ1 := ⟨S1, E1, k1⟩
  refine l2 ρ1 i ρ2 σ Hf1 H1 e2 E1 _ fun Hf2 H2 S2 E2 k2 => ?_
  have B2 : Bh X.K Hf1 H1 ρ1 σ Hf2 H2 ρ2 := ⟨S2, E2, k2⟩
  refine h2 ρ2 j ρ3 σ Hf2 H2 e3 E2 _ fun Hf3 H3 S3 E3 k3 => ?_
  have B3 : Bh X.K Hf2 H2 ρ2 σ Hf3 H3 ρ3 := ⟨S3, E3, k3⟩
  have R1' := B1.keepR E (B2.trans B3) R1
  refine sl_S Hf3 H3 c u z E3.ff (look_ok E3 R1' e4) e5 _ fun t Hf4 H4 S4 R4 => ?_
  have B4 := (B1.trans (B2.trans B3)).more S4
  exact q t Hf4 H4 B4.st B4.en (R4.any.back fun p hp => (B1.trans (B2.trans B3)).fresh hp) B4.kp
end
end Py
/-! Py4: what changes a name's object; statements. -/
namespace Py
open PySem PySem.Spec PyProof.Rows L2

section
variable {K : PySem.W.Frag} {Hf H Hf' H' Hf1 H1 Hf2 H2 H0 : Hp} {ρ ρ' ρ1 ρ2 : Env} {σ σ' σ1 σ2 : L2.St} {O O' O1 : Addr → Prop} {X : Cx}
theorem obAt_ok {i : Nat} {o : Ob} (E : RepE K Hf H ρ σ) (h : obAt ρ i = some o) : ∃ p, OwnAt ρ σ i p ∧ slot σ i = some (.ref p) ∧ Hf p = none ∧ RepOb K Hf H p o ∧ i < ρ.length := by
  unfold obAt at h
  cases g : get ρ i with
  | none => rw [g] at h; cases h
  | some s =>
    have hi : i < ρ.length := by
      by_cases hl : i < ρ.length
      · exact hl
      · unfold get at g
        rw [List.getElem?_eq_none (by omega)] at g
        cases g
    obtain ⟨u, h1, h2⟩ := E.sl i s g
    cases s with
    | val v => rw [g] at h; cases h
    | own o' => rw [g] at h; cases h; obtain ⟨p, rfl, f, r⟩ := h2; exact ⟨p, ⟨by rw [g]; rfl, h1⟩, h1, f, r, hi⟩
    | ref o' => rw [g] at h; cases h; obtain ⟨p, rfl, f, r⟩ := h2; exact ⟨p, ⟨by rw [g]; rfl, h1⟩, h1, f, r, hi⟩
    | lck kvs => rw [g] at h; cases h
theorem lstAt_ok {i : Nat} {xs : List PV} (E : RepE K Hf H ρ σ) (h : lstAt ρ i = some xs) : obAt ρ i = some (.lst xs) := by
  unfold lstAt at h
  split at h
  · cases h; assumption
  · cases h
theorem get_setOb (i j : Nat) (o : Ob) (hi : i < ρ.length) : get (setOb ρ i o) j = if i = j then (if isRef (get ρ i) then some (.ref o) else some (.own o)) else get ρ j := by
  unfold setOb
  cases g : get ρ i with
  | none => dsimp only; rw [get_set]; by_cases h : i = j <;> simp [h, hi, isRef] <;> (intro z; omega)
  | some s =>
    cases s <;> (dsimp only; rw [get_set]; by_cases h : i = j <;> simp [h, hi, isRef] <;> (intro z; omega))
/-- a name's object is changed -/
theorem mut_ok {i : Nat} {o o' : Ob} {p : Addr} {ho : HO} (E : RepE K Hf H ρ σ) (ha : OwnAt ρ σ i p) (hi : i < ρ.length) (r : RepOb K Hf (upd H p ho) p o') :
    Bh K Hf H ρ σ Hf (upd H p ho) (setOb ρ i o') := by
  obtain ⟨⟨x, hx⟩, fp⟩ := E.there ⟨i, ha⟩
  have ob : ∀ j, isOb (get (setOb ρ i o') j) = true → isOb (get ρ j) = true := fun j h => by
    rw [get_setOb i j o' hi] at h
    by_cases e : i = j
    · rw [← e]; exact ha.1
    · rw [if_neg e] at h; exact h
  refine ⟨⟨fun _ _ h => h, fun a o h => ?_, fun a o h n => ?_, fun _ _ _ _ => rfl, fun a o h => ?_⟩, ⟨?_, fun a o h => ?_, fun j s h => ?_, fun j k q a b => E.dis j k q ⟨ob j a.1, a.2⟩ ⟨ob k b.1, b.2⟩⟩, ⟨ob, fun j => ?_⟩⟩
  · rw [upd_ne (ne_of_none h fp)]; exact E.ff a o h
  · rw [upd_ne (fun z => n ⟨i, by rw [z]; exact ha⟩)]; exact h
  · by_cases e : a = p
    · subst e; exact ⟨_, upd_same⟩
    · exact ⟨o, by rw [upd_ne e]; exact h⟩
  · unfold setOb; split <;> rw [List.length_set] <;> exact E.len
  · rw [upd_ne (ne_of_none h fp)]; exact E.ff a o h
  · rw [get_setOb i j o' hi] at h
    by_cases e : i = j
    · subst e
      rw [if_pos rfl] at h
      refine ⟨_, ha.2, ?_⟩
      split at h
      · cases h; exact ⟨p, rfl, fp, r⟩
      · cases h; exact ⟨p, rfl, fp, r⟩
    · rw [if_neg e] at h
      obtain ⟨u, h1, h2⟩ := E.sl j s h
      refine ⟨u, h1, ?_⟩
      have np : ∀ q, u = .ref q → isOb (some s) = true → q ≠ p := fun q hu hb z => e (E.dis i j p ha ⟨by rw [h]; exact hb, by rw [h1, hu, z]⟩)
      cases s with
      | val v => exact h2
      | own o2 =>
        obtain ⟨q, e1, f1, r1⟩ := h2
        refine ⟨q, e1, f1, ?_⟩
        cases o2 with
        | lst ys => obtain ⟨vs, a, b⟩ := r1; exact ⟨vs, by rw [upd_ne (np q e1 rfl)]; exact a, b⟩
        | dct ys => obtain ⟨vs, a, b⟩ := r1; exact ⟨vs, by rw [upd_ne (np q e1 rfl)]; exact a, b⟩
      | ref o2 =>
        obtain ⟨q, e1, f1, r1⟩ := h2
        refine ⟨q, e1, f1, ?_⟩
        cases o2 with
        | lst ys => obtain ⟨vs, a, b⟩ := r1; exact ⟨vs, by rw [upd_ne (np q e1 rfl)]; exact a, b⟩
        | dct ys => obtain ⟨vs, a, b⟩ := r1; exact ⟨vs, by rw [upd_ne (np q e1 rfl)]; exact a, b⟩
      | lck kvs => exact h2
  · rw [get_setOb i j o' hi]
    by_cases e : i = j
    · subst e
      rw [if_pos rfl]
      cases hr : isRef (get ρ i) <;> simp [isRef]
    · rw [if_neg e]
/-! ### methods of a name's list -/
theorem se_append {i : Nat} {te : TE} {a : M} (ha : SE K te a) : SE K (tBM K "list" rAppend (tVar i) (tCons te tNil)) (mAppend i a) := by
  intro ρ r ρ' σ Hf H hm E Q q
  simp only [mAppend, Option.bind_eq_some_iff] at hm
  obtain ⟨ys, h0, ⟨x, ρ1⟩, e1, ⟨v, ρ2⟩, e2, xs, e3, e4⟩ := hm
  split at e4
  · rename_i hz
    cases e4
    obtain ⟨p, o1, s1, f1, ⟨vs, hv, dv⟩, _⟩ := obAt_ok E (lstAt_ok E h0)
    refine ⟨_, slot_at s1, .inl ⟨rfl, _, SqL.of hv⟩, ?_⟩
    refine ha ρ x ρ1 σ Hf H e1 E _ fun u Hf1 H1 S1 E1 R1 k1 => ?_
    have B1 : Bh K Hf H ρ σ Hf1 H1 ρ1 := ⟨S1, E1, k1⟩
    obtain ⟨Hf2, B2, d⟩ := B1.frz E R1 e2
    obtain ⟨p', o2, s2, f2, ⟨ws, hw, dw⟩, hi⟩ := obAt_ok B2.en (lstAt_ok B2.en e3)
    rw [s1] at s2
    cases s2
    have B3 := mut_ok (o := .lst xs) (o' := .lst (xs ++ [v])) (ho := .lst (ws ++ [u])) B2.en o2 hi ⟨_, upd_same, dps_app dw (.cons d .nil)⟩
    have B4 := B2.trans B3
    exact ⟨p, ws, u, rfl, rfl, hw, by rw [dps_len dw, ← line_eq]; exact hz, q _ _ _ B4.st B4.en .non B4.kp⟩
  · cases e4
theorem se_pop {i : Nat} : SE K (tBM0 K "list" rPop (tVar i)) (mPop i) := by
  intro ρ r ρ' σ Hf H hm E Q q
  simp only [mPop, Option.bind_eq_some_iff, Option.map_eq_some_iff, Prod.mk.injEq] at hm
  obtain ⟨xs, h0, v, e1, rfl, rfl⟩ := hm
  obtain ⟨p, o1, s1, f1, ⟨vs, hv, dv⟩, hi⟩ := obAt_ok E (lstAt_ok E h0)
  rw [List.getLast?_eq_getElem?] at e1
  obtain ⟨u, h1, h2⟩ := dps_get dv e1
  rw [← dps_len dv] at h1
  have B := mut_ok (o := .lst xs) (o' := .lst xs.dropLast) (ho := .lst vs.dropLast) E o1 hi ⟨_, upd_same, dps_dropLast dv⟩
  exact ⟨_, slot_at s1, .inl ⟨rfl, _, SqL.of hv⟩, p, vs, u, rfl, rfl, hv, h1, q _ _ _ B.st B.en h2 B.kp⟩
theorem se_reverse {i : Nat} : SE K (tBM0 K "list" rReverse (tVar i)) (mReverse i) := by
  intro ρ r ρ' σ Hf H hm E Q q
  simp only [mReverse, Option.map_eq_some_iff, Prod.mk.injEq] at hm
  obtain ⟨xs, h0, rfl, rfl⟩ := hm
  obtain ⟨p, o1, s1, f1, ⟨vs, hv, dv⟩, hi⟩ := obAt_ok E (lstAt_ok E h0)
  have B := mut_ok (o := .lst xs) (o' := .lst xs.reverse) (ho := .lst vs.reverse) E o1 hi ⟨_, upd_same, dps_rev dv⟩
  exact ⟨_, slot_at s1, .inl ⟨rfl, _, SqL.of hv⟩, p, vs, rfl, rfl, hv, q _ _ _ B.st B.en .non B.kp⟩
theorem seqIx {i : Int} {n j : Nat} (h : ixN n i = some j) : seqIndex? i n = some j ∧ j < n ∧ -(n : Int) ≤ i ∧ i < n := by
  rw [ixN_eq] at h
  exact ixN_seq h
theorem se_popAt {i : Nat} {te : TE} {a : M} (ha : SE K te a) : SE K (tBM K "list" rPopAt (tVar i) (tCons te tNil)) (mPopAt i a) := by
  intro ρ r ρ' σ Hf H hm E Q q
  simp only [mPopAt, Option.bind_eq_some_iff] at hm
  obtain ⟨ys, h0, ⟨x, ρ1⟩, e1, c, e2, k, e3, xs, e4, e5⟩ := hm
  split at e5
  · rename_i hz
    simp only [Option.bind_eq_some_iff, Option.map_eq_some_iff, Prod.mk.injEq] at e5
    obtain ⟨j, e6, v, e7, rfl, rfl⟩ := e5
    obtain ⟨p, o1, s1, f1, ⟨vs, hv, dv⟩, _⟩ := obAt_ok E (lstAt_ok E h0)
    refine ⟨_, slot_at s1, .inl ⟨rfl, _, SqL.of hv⟩, ?_⟩
    refine ha ρ x ρ1 σ Hf H e1 E _ fun u Hf1 H1 S1 E1 R1 k1 => ?_
    have B1 : Bh K Hf H ρ σ Hf1 H1 ρ1 := ⟨S1, E1, k1⟩
    have hc := look_ok E1 R1 e2
    unfold intOf at e3
    split at e3
    · cases e3
      cases hc
      obtain ⟨p', o2, s2, f2, ⟨ws, hw, dw⟩, hi⟩ := obAt_ok B1.en (lstAt_ok B1.en e4)
      rw [s1] at s2
      cases s2
      obtain ⟨w, h1, h2⟩ := dps_get dw e7
      have B3 := mut_ok (o := .lst xs) (o' := .lst (xs.eraseIdx j)) (ho := .lst (ws.eraseIdx j)) B1.en o2 hi ⟨_, upd_same, dps_erase _ dw⟩
      have B4 := B1.trans B3
      exact ⟨p, ws, k, j, w, rfl, rfl, hw, by omega, by omega, by rw [dps_len dw]; exact (seqIx e6).1, h1, q _ _ _ B4.st B4.en h2 B4.kp⟩
    · cases e3
  · cases e5
variable {a b : Expr} {ma mb : M} {x : Str} {p pos apos : Pos}
theorem be_append (i : Nat) (ho : PE X (.Name x p) (tVar i)) (ha : BE X a ma) (hbase : attributeBase (.Name x p) "append" X.env (eval (.Name x p) X.env) = eval (.Name x p) X.env := by rfl)
    (hfew : ((backTo pos (starEach [a] X.env)).all (fun x => !x.1) && (backToKw pos (keywordEach [] X.env)).all (fun x => x.1.isSome) && decide (([a] : List Expr).length + ([] : List Keyword).length + (if ([] : List Keyword).isEmpty then 0 else 1) < 30)) = true := by rfl)
    (hline : (apos.endLine == pos.line) = true := by rfl) (hs : starEach [a] X.env = (false, eval a X.env) :: starEach [] X.env := by rfl) (hp : (backTo pos (starEach [] X.env)).any (·.1) = false := by rfl) :
    BE X (.Call (.Attribute (.Name x p) "append" apos) [a] [] pos) (mAppend i ma) := by
  obtain ⟨t, a1, a2⟩ := ha
  exact ⟨_, pe_bm PySem.F.plainAttrs_list PySem.F.slot_list_append PySem.F.type_list_append mt_append ho (pa_cons a1 pa_nil hs) hbase hfew hline hs hp, se_append a2⟩
theorem be_popAt (i : Nat) (ho : PE X (.Name x p) (tVar i)) (ha : BE X a ma) (hbase : attributeBase (.Name x p) "pop" X.env (eval (.Name x p) X.env) = eval (.Name x p) X.env := by rfl)
    (hfew : ((backTo pos (starEach [a] X.env)).all (fun x => !x.1) && (backToKw pos (keywordEach [] X.env)).all (fun x => x.1.isSome) && decide (([a] : List Expr).length + ([] : List Keyword).length + (if ([] : List Keyword).isEmpty then 0 else 1) < 30)) = true := by rfl)
    (hline : (apos.endLine == pos.line) = true := by rfl) (hs : starEach [a] X.env = (false, eval a X.env) :: starEach [] X.env := by rfl) (hp : (backTo pos (starEach [] X.env)).any (·.1) = false := by rfl) :
    BE X (.Call (.Attribute (.Name x p) "pop" apos) [a] [] pos) (mPopAt i ma) := by
  obtain ⟨t, a1, a2⟩ := ha
  exact ⟨_, pe_bm PySem.F.plainAttrs_list PySem.F.slot_list_pop PySem.F.type_list_pop mt_popAt ho (pa_cons a1 pa_nil hs) hbase hfew hline hs hp, se_popAt a2⟩
theorem be_pop (i : Nat) (ho : PE X (.Name x p) (tVar i)) (hbase : attributeBase (.Name x p) "pop" X.env (eval (.Name x p) X.env) = eval (.Name x p) X.env := by rfl) (hline : (apos.endLine == pos.line) = true := by rfl) :
    BE X (.Call (.Attribute (.Name x p) "pop" apos) [] [] pos) (mPop i) :=
  ⟨_, pe_bm0 PySem.F.plainAttrs_list PySem.F.slot_list_pop PySem.F.type_list_pop mt_pop ho hbase hline, se_pop⟩
theorem be_reverse (i : Nat) (ho : PE X (.Name x p) (tVar i)) (hbase : attributeBase (.Name x p) "reverse" X.env (eval (.Name x p) X.env) = eval (.Name x p) X.env := by rfl) (hline : (apos.endLine == pos.line) = true := by rfl) :
    BE X (.Call (.Attribute (.Name x p) "reverse" apos) [] [] pos) (mReverse i) :=
  ⟨_, pe_bm0 PySem.F.plainAttrs_list PySem.F.slot_list_reverse PySem.F.type_list_reverse mt_reverse ho hbase hline, se_reverse⟩
theorem be_frz (ha : BE X a ma) : BE X a (mFrz ma) := by
  obtain ⟨t, a1, a2⟩ := ha
  refine ⟨t, a1, fun ρ r ρ' σ Hf H hm E Q q => ?_⟩
  simp only [mFrz, Option.bind_eq_some_iff, Option.map_eq_some_iff, Prod.mk.injEq] at hm
  obtain ⟨⟨x, ρ1⟩, e1, ⟨v, ρ2⟩, e2, rfl, rfl⟩ := hm
  refine a2 ρ x ρ1 σ Hf H e1 E _ fun u Hf1 H1 S1 E1 R1 k1 => ?_
  obtain ⟨Hf2, B2, d⟩ := (⟨S1, E1, k1⟩ : Bh X.K Hf H ρ σ Hf1 H1 ρ1).frz E R1 e2
  exact q u Hf2 H1 B2.st B2.en d B2.kp
end

/-! ### statements -/
structure BhS (K : PySem.W.Frag) (Hf H : Hp) (ρ : Env) (σ : L2.St) (Hf1 H1 : Hp) (ρ1 : Env) (σ1 : L2.St) : Prop where
  st : Step (Own ρ σ) Hf H Hf1 H1
  en : RepE K Hf1 H1 ρ1 σ1
  own : ∀ p, Own ρ1 σ1 p → Own ρ σ p ∨ H p = none
  ref : ∀ i, isRef (get ρ1 i) = isRef (get ρ i) ∧ (isRef (get ρ i) = true → slot σ1 i = slot σ i)
def FlR (K : PySem.W.Frag) (D : Ends) (f : Fl) (Hf H H0 : Hp) (σ : L2.St) : Prop := match f with
  | .nx => D.nx σ H
  | .bk => D.bk σ H
  | .ct => D.ct σ H
  | .rt r => ∀ u, RepR K Hf H H0 σ r u → D.rt u H
def SS (K : PySem.W.Frag) (ts : TS) (m : SM) : Prop := ∀ (ρ : Env) (f : Fl) (ρ' : Env) (σ : L2.St) (Hf H : Hp), m ρ = some (f, ρ') → RepE K Hf H ρ σ → ∀ D : Ends,
  (∀ σ' Hf' H', BhS K Hf H ρ σ Hf' H' ρ' σ' → FlR K D f Hf' H' H σ') → ts D σ H
structure BS (X : Cx) (st : Stmt) (m : SM) : Prop where
  ex : ∃ t, PS X st t ∧ SS X.K t m
structure BSs (X : Cx) (st : List Stmt) (m : SM) : Prop where
  ex : ∃ t, PSs X st t ∧ SS X.K t m
/-- a target: nothing in the heap changes -/
structure BhG (K : PySem.W.Frag) (Hf H H0 : Hp) (ρ : Env) (σ : L2.St) (Hf1 : Hp) (ρ1 : Env) (σ1 : L2.St) : Prop where
  st : Step (fun p => Own ρ σ p ∨ H0 p = none) Hf H Hf1 H
  en : RepE K Hf1 H ρ1 σ1
  own : ∀ p, Own ρ1 σ1 p → Own ρ σ p ∨ H0 p = none
  ref : ∀ i, isRef (get ρ1 i) = isRef (get ρ i) ∧ (isRef (get ρ i) = true → slot σ1 i = slot σ i)
def SG (K : PySem.W.Frag) (g : TG) (m : MG) : Prop := ∀ (r : R) (ρ ρ' : Env) (σ : L2.St) (Hf H H0 : Hp) (u : V), m r ρ = some ρ' → RepE K Hf H ρ σ → RepR K Hf H H0 σ r u → (∀ q, Own ρ σ q → H0 q ≠ none) → ∀ Q : L2.St → Hp → Prop,
  (∀ σ' Hf', BhG K Hf H H0 ρ σ Hf' ρ' σ' → Q σ' H) → g u σ H Q
structure BG (X : Cx) (tg : Expr) (m : MG) : Prop where
  ex : ∃ g, PG X tg g ∧ SG X.K g m

section
variable {K : PySem.W.Frag} {Hf H Hf' H' Hf1 H1 Hf2 H2 H0 : Hp} {ρ ρ' ρ1 ρ2 : Env} {σ σ' σ1 σ2 : L2.St} {O O' O1 : Addr → Prop} {X : Cx}
theorem Bh.s (a : Bh K Hf H ρ σ Hf1 H1 ρ1) : BhS K Hf H ρ σ Hf1 H1 ρ1 σ := ⟨a.st, a.en, fun _ h => .inl (a.kp.sub h), fun i => ⟨a.kp.ref i, fun _ => rfl⟩⟩
theorem BhS.refl (E : RepE K Hf H ρ σ) : BhS K Hf H ρ σ Hf H ρ σ := (Bh.refl E).s
theorem BhS.trans (a : BhS K Hf H ρ σ Hf1 H1 ρ1 σ1) (b : BhS K Hf1 H1 ρ1 σ1 Hf2 H2 ρ2 σ2) : BhS K Hf H ρ σ Hf2 H2 ρ2 σ2 := by
  refine ⟨a.st.trans b.st a.own, b.en, fun p h => ?_, fun i => ?_⟩
  · rcases b.own p h with z | z
    · exact a.own p z
    · exact .inr (a.st.fresh z)
  · obtain ⟨x1, x2⟩ := a.ref i
    obtain ⟨y1, y2⟩ := b.ref i
    exact ⟨y1.trans x1, fun h => (y2 (x1.trans h)).trans (x2 h)⟩
theorem BhS.fresh (a : BhS K Hf H ρ σ Hf1 H1 ρ1 σ1) {p : Addr} (h : H1 p = none) : H p = none := a.st.fresh h
theorem Bh.g (a : Bh K Hf H ρ σ Hf1 H1 ρ1) (b : BhG K Hf1 H1 H ρ1 σ Hf2 ρ2 σ2) : BhS K Hf H ρ σ Hf2 H1 ρ2 σ2 := by
  refine ⟨a.st.trans b.st fun p h => ?_, b.en, fun p h => ?_, fun i => ?_⟩
  · rcases h with h | h
    · exact .inl (a.kp.sub h)
    · exact .inr h
  · rcases b.own p h with z | z
    · exact .inl (a.kp.sub z)
    · exact .inr z
  · obtain ⟨y1, y2⟩ := b.ref i
    exact ⟨y1.trans (a.kp.ref i), fun h => y2 ((a.kp.ref i).trans h)⟩
theorem FlR.back {D : Ends} {f : Fl} (h : FlR K D f Hf H H0 σ) (z : ∀ p, H1 p = none → H0 p = none) : FlR K D f Hf H H1 σ := by
  cases f with
  | nx => exact h
  | bk => exact h
  | ct => exact h
  | rt r => exact fun u hu => h u (hu.back z)
/-- a value, or a new object, at a name -/
theorem put_ok {i : Nat} {s : Sl} {u : V} (E : RepE K Hf H ρ σ) (h : put i (some s) ρ = some ρ') (r : RepSl K Hf H s u) (n : ∀ p, isOb (some s) = true → u = .ref p → ¬ Own ρ σ p) :
    RepE K Hf H ρ' (σ.set i (some u)) ∧ (∀ p, Own ρ' (σ.set i (some u)) p → Own ρ σ p ∨ (isOb (some s) = true ∧ u = .ref p)) ∧ (∀ j, (isRef (get ρ' j) = true → isRef (some s) = true) ∨ isRef (get ρ' j) = isRef (get ρ j)) ∧
      (∀ j, isRef (some s) = false → isRef (get ρ' j) = isRef (get ρ j) ∧ (isRef (get ρ j) = true → slot (σ.set i (some u)) j = slot σ j)) := by
  unfold put at h
  split at h
  · cases h
  · rename_i nr
    cases h
    have hg : ∀ j, get (ρ.set i (some s)) j = if i = j ∧ i < ρ.length then some s else get ρ j := fun j => get_set ρ i j (some s)
    have hs : ∀ j, slot (σ.set i (some u)) j = if i = j ∧ i < σ.length then some u else slot σ j := fun j => slot_set σ i j (some u)
    have ow : ∀ j p, OwnAt (ρ.set i (some s)) (σ.set i (some u)) j p → (i = j ∧ i < ρ.length ∧ isOb (some s) = true ∧ u = .ref p) ∨ (OwnAt ρ σ j p ∧ ¬ (i = j ∧ i < ρ.length)) := fun j p ⟨a, b⟩ => by
      rw [hg] at a
      rw [hs, ← E.len] at b
      by_cases c : i = j ∧ i < ρ.length
      · rw [if_pos c] at a b
        cases b
        exact .inl ⟨c.1, c.2, a, rfl⟩
      · rw [if_neg c] at a b
        exact .inr ⟨⟨a, b⟩, c⟩
    refine ⟨⟨by rw [List.length_set, List.length_set]; exact E.len, E.ff, fun j t e => ?_, fun j k p a b => ?_⟩, fun p ⟨j, a⟩ => ?_, fun j => ?_, fun j hr => ⟨?_, fun hj => ?_⟩⟩
    · rw [hg] at e
      rw [hs, ← E.len]
      by_cases c : i = j ∧ i < ρ.length
      · rw [if_pos c] at e ⊢
        cases e
        exact ⟨u, rfl, r⟩
      · rw [if_neg c] at e ⊢
        exact E.sl j t e
    · rcases ow j p a with ⟨e1, l1, b1, u1⟩ | ⟨a1, c1⟩ <;> rcases ow k p b with ⟨e2, l2, b2, u2⟩ | ⟨a2, c2⟩
      · omega
      · exact absurd ⟨k, a2⟩ (n p b1 u1)
      · exact absurd ⟨j, a1⟩ (n p b2 u2)
      · exact E.dis j k p a1 a2
    · rcases ow j p a with ⟨e1, l1, b1, u1⟩ | ⟨a1, c1⟩
      · exact .inr ⟨b1, u1⟩
      · exact .inl ⟨j, a1⟩
    · rw [hg]
      by_cases c : i = j ∧ i < ρ.length
      · rw [if_pos c]; exact .inl fun z => z
      · rw [if_neg c]; exact .inr rfl
    · rw [hg]
      by_cases c : i = j ∧ i < ρ.length
      · rw [if_pos c, hr, ← c.1]; simpa using nr
      · rw [if_neg c]
    · rw [hs]
      have c : ¬ (i = j ∧ i < σ.length) := fun c => by
        rw [← c.1] at hj
        rw [hj] at nr
        exact nr rfl
      rw [if_neg c]
theorem sg_name (i : Nat) : SG K (L2.gName i) (Py.gName i) := by
  intro r ρ ρ' σ Hf H H0 u hm E R no Q q
  cases r with
  | val v =>
    obtain ⟨E1, h1, _, h3⟩ := put_ok (u := u) E hm R fun p h => nomatch h
    exact q _ Hf ⟨.refl E.ff, E1, fun p hp => (h1 p hp).imp id (fun z => nomatch z.1), fun j => h3 j rfl⟩
  | new o =>
    obtain ⟨p, rfl, z, f, r⟩ := R
    have np : ¬ Own ρ σ p := fun h => no p h z
    obtain ⟨E1, h1, _, h3⟩ := put_ok (s := .own o) (u := .ref p) E hm ⟨p, rfl, f, r⟩ fun p' _ h => by cases h; exact np
    exact q _ Hf ⟨.refl E.ff, E1, fun p' hp => (h1 p' hp).imp id fun z' => by cases z'.2; exact z, fun j => h3 j rfl⟩
  | bor j =>
    have hm' : (frz (.bor j) ρ).bind (fun v => put i (some (.val v.1)) v.2) = some ρ' := hm
    rw [Option.bind_eq_some_iff] at hm'
    obtain ⟨⟨v, ρ1⟩, e1, e2⟩ := hm'
    obtain ⟨Hf1, S, E1, d, k⟩ := frz_ok E R no e1
    obtain ⟨E2, h1, _, h3⟩ := put_ok (s := .val v) (u := u) E1 e2 d fun p h => nomatch h
    exact q _ Hf1 ⟨S, E2, fun p hp => (h1 p hp).elim (fun z => .inl (k.sub z)) (fun z => nomatch z.1), fun l => ⟨((h3 l rfl).1).trans (k.ref l), fun hl => (h3 l rfl).2 ((k.ref l).trans hl)⟩⟩
theorem bg_name (i : Nat) {x : Str} {pos : Pos} (hN : X.N.Nodup) (hi : X.N[i]? = some x := by rfl) (hx : Loc X.env.scope x := by first | exact Or.inl rfl | exact Or.inr rfl) (hf : X.fn x = true ∨ X.env.scope.names.lookup x = some .local := by first | exact .inl rfl | exact .inr rfl | assumption) : BG X (.Name x pos) (Py.gName i) :=
  ⟨_, pg_name hN hi hx hf, sg_name i⟩
end
end Py
/-! Py5: statements, loops, comprehensions. -/
namespace Py
open PySem PySem.Spec PyProof.Rows L2

section
variable {K : PySem.W.Frag} {Hf H Hf' H' Hf1 H1 Hf2 H2 H0 : Hp} {ρ ρ' ρ1 ρ2 : Env} {σ σ' σ1 σ2 : L2.St} {O O' O1 : Addr → Prop} {X : Cx}
theorem ss_next : SS K tNext sNext := by
  intro ρ f ρ' σ Hf H hm E D q
  cases hm
  exact q σ Hf H (.refl E)
theorem ss_seq {t u : TS} {a b : SM} (ha : SS K t a) (hb : SS K u b) : SS K (tSeq t u) (sSeq a b) := by
  intro ρ f ρ' σ Hf H hm E D q
  simp only [sSeq, Option.bind_eq_some_iff] at hm
  obtain ⟨⟨f1, ρ1⟩, e1, e2⟩ := hm
  refine ha ρ f1 ρ1 σ Hf H e1 E _ fun σ1 Hf1 H1 B1 => ?_
  cases f1 with
  | nx =>
    refine hb ρ1 f ρ' σ1 Hf1 H1 e2 B1.en D fun σ2 Hf2 H2 B2 => ?_
    exact (q σ2 Hf2 H2 (B1.trans B2)).back fun p hp => B1.fresh hp
  | bk => cases e2; exact q σ1 Hf1 H1 B1
  | ct => cases e2; exact q σ1 Hf1 H1 B1
  | rt r => cases e2; exact q σ1 Hf1 H1 B1
theorem ss_if {tt : TT} {t u : TS} {c : MT} {a b : SM} (hc : ST K tt c) (ha : SS K t a) (hb : SS K u b) : SS K (tIfS tt t u) (sIf c a b) := by
  intro ρ f ρ' σ Hf H hm E D q
  simp only [sIf, Option.bind_eq_some_iff] at hm
  obtain ⟨⟨x, ρ1⟩, e1, e2⟩ := hm
  refine hc ρ x ρ1 σ Hf H e1 E _ fun Hf1 H1 S1 E1 k1 => ?_
  have B1 : Bh K Hf H ρ σ Hf1 H1 ρ1 := ⟨S1, E1, k1⟩
  cases x with
  | true =>
    simp only [if_true] at e2 ⊢
    exact ha ρ1 f ρ' σ Hf1 H1 e2 E1 D fun σ2 Hf2 H2 B2 => (q σ2 Hf2 H2 (B1.s.trans B2)).back fun p hp => B1.fresh hp
  | false =>
    simp only [Bool.false_eq_true, if_false] at e2 ⊢
    exact hb ρ1 f ρ' σ Hf1 H1 e2 E1 D fun σ2 Hf2 H2 B2 => (q σ2 Hf2 H2 (B1.s.trans B2)).back fun p hp => B1.fresh hp
theorem ss_ret {te : TE} {a : M} (ha : SE K te a) : SS K (tRet te) (sRet a) := by
  intro ρ f ρ' σ Hf H hm E D q
  simp only [sRet, Option.map_eq_some_iff, Prod.mk.injEq] at hm
  obtain ⟨⟨x, ρ1⟩, e1, rfl, rfl⟩ := hm
  exact ha ρ x ρ1 σ Hf H e1 E _ fun u Hf1 H1 S1 E1 R1 k1 => q σ Hf1 H1 (⟨S1, E1, k1⟩ : Bh K Hf H ρ σ Hf1 H1 ρ1).s u R1
theorem ss_expr {te : TE} {a : M} (ha : SE K te a) : SS K (tDrop te) (sExpr a) := by
  intro ρ f ρ' σ Hf H hm E D q
  simp only [sExpr, Option.map_eq_some_iff, Prod.mk.injEq] at hm
  obtain ⟨⟨x, ρ1⟩, e1, rfl, rfl⟩ := hm
  exact ha ρ x ρ1 σ Hf H e1 E _ fun u Hf1 H1 S1 E1 R1 k1 => q σ Hf1 H1 (⟨S1, E1, k1⟩ : Bh K Hf H ρ σ Hf1 H1 ρ1).s
theorem ss_asg {te : TE} {g : TG} {a : M} {m : MG} (ha : SE K te a) (hg : SG K g m) : SS K (tAsg te g) (sAsg a m) := by
  intro ρ f ρ' σ Hf H hm E D q
  simp only [sAsg, Option.bind_eq_some_iff, Option.map_eq_some_iff, Prod.mk.injEq] at hm
  obtain ⟨⟨x, ρ1⟩, e1, ρ2, e2, rfl, rfl⟩ := hm
  refine ha ρ x ρ1 σ Hf H e1 E _ fun u Hf1 H1 S1 E1 R1 k1 => ?_
  have B1 : Bh K Hf H ρ σ Hf1 H1 ρ1 := ⟨S1, E1, k1⟩
  exact hg x ρ1 ρ2 σ Hf1 H1 H u e2 E1 R1 (B1.no E) _ fun σ2 Hf2 B2 => q σ2 Hf2 H1 (B1.g B2)
/-- several names, a tuple's items -/
def tNames : List Nat → TGs
  | [] => gNil
  | i :: is => gCons (L2.gName i) (tNames is)
/-- a, b = x, y -/
def parPut (i j : Nat) (x y : R) (ρ : Env) : Option Env := (Py.gName i x ρ).bind fun ρ1 => Py.gName j y ρ1
/-- xs[e] = v -/
theorem ss_setIx {i : Nat} {te ti : TE} {a e : M} (ha : SE K te a) (he : SE K ti e) : SS K (tAsg te (gSub (tVar i) ti rSetL)) (sSetIx i e a) := by
  intro ρ f ρ' σ Hf H hm E D q
  simp only [sSetIx, Option.bind_eq_some_iff, Option.map_eq_some_iff, Prod.mk.injEq] at hm
  obtain ⟨⟨x, ρ1⟩, e1, ⟨v, ρ2⟩, e2, ys, h0, ⟨y, ρ3⟩, e3, c, e4, k, e5, xs, e6, j, e7, rfl, rfl⟩ := hm
  refine ha ρ x ρ1 σ Hf H e1 E _ fun u Hf1 H1 S1 E1 R1 k1 => ?_
  have B1 : Bh K Hf H ρ σ Hf1 H1 ρ1 := ⟨S1, E1, k1⟩
  obtain ⟨Hf2, B2, d⟩ := B1.frz E R1 e2
  obtain ⟨p, o1, s1, f1, ⟨vs, hv, dv⟩, _⟩ := obAt_ok B2.en (lstAt_ok B2.en h0)
  refine ⟨_, slot_at s1, ?_⟩
  refine he ρ2 y ρ3 σ Hf2 H1 e3 B2.en _ fun w Hf3 H3 S3 E3 R3 k3 => ?_
  have B3' : Bh K Hf2 H1 ρ2 σ Hf3 H3 ρ3 := ⟨S3, E3, k3⟩
  have B3 := B2.trans B3'
  have hc := look_ok E3 R3 e4
  unfold intOf at e5
  split at e5
  · cases e5
    cases hc
    obtain ⟨p', o2, s2, f2, ⟨ws, hw, dw⟩, hi⟩ := obAt_ok B3.en (lstAt_ok B3.en e6)
    rw [s1] at s2
    cases s2
    have d' := dp_mono S3.ff _ _ d
    have B4 := B3.trans (mut_ok (o := .lst xs) (o' := .lst (xs.set j v)) (ho := .lst (ws.set j u)) B3.en o2 hi ⟨_, upd_same, dps_set d' _ dw⟩)
    exact ⟨p, ws, k, j, rfl, rfl, hw, by rw [dps_len dw]; exact e7, q σ Hf3 _ B4.s⟩
  · cases e5
theorem ss_fgt {t : TS} {a : SM} (is : List Nat) (ha : SS K t a) : SS K t (sFgt is a) := by
  intro ρ f ρ' σ Hf H hm E D q
  simp only [sFgt, Option.map_eq_some_iff] at hm
  obtain ⟨⟨f1, ρ1⟩, e1, e2⟩ := hm
  refine ha ρ f1 ρ1 σ Hf H e1 E D fun σ' Hf' H' B => ?_
  have e3 : (f = f1 ∧ ρ' = ρ1) ∨ (f = f1 ∧ ρ' = forget is ρ1) := by
    cases f1 <;> (cases e2; first | exact .inl ⟨rfl, rfl⟩ | exact .inr ⟨rfl, rfl⟩)
  rcases e3 with ⟨rfl, rfl⟩ | ⟨rfl, rfl⟩
  · exact q σ' Hf' H' B
  refine q σ' Hf' H' ?_
  have key : ∀ is : List Nat, (forget is ρ1).length = ρ1.length ∧ (∀ j, get (forget is ρ1) j = get ρ1 j ∨ (get (forget is ρ1) j = none ∧ isRef (get ρ1 j) = false)) := by
    intro is
    induction is with
    | nil => exact ⟨rfl, fun _ => .inl rfl⟩
    | cons i is ih =>
      obtain ⟨h1, h2⟩ := ih
      unfold forget
      split
      · exact ⟨h1, h2⟩
      · rename_i nr
        refine ⟨by rw [List.length_set]; exact h1, fun j => ?_⟩
        rw [get_set]
        split
        · rename_i c
          refine .inr ⟨rfl, ?_⟩
          rw [c.1] at nr
          rcases h2 j with z | z
          · rw [z] at nr; simpa using nr
          · exact z.2
        · exact h2 j
  obtain ⟨kl, kg⟩ := key is
  have sub : ∀ j p, OwnAt (forget is ρ1) σ' j p → OwnAt ρ1 σ' j p := fun j p ⟨x, y⟩ => by
    refine ⟨?_, y⟩
    rcases kg j with z | z
    · rw [z] at x; exact x
    · rw [z.1] at x
      cases x
  refine ⟨B.st, ⟨kl.trans B.en.len, B.en.ff, fun j s e => ?_, fun j k p x y => B.en.dis j k p (sub j p x) (sub k p y)⟩, fun p ⟨j, x⟩ => B.own p ⟨j, sub j p x⟩, fun j => ⟨?_, (B.ref j).2⟩⟩
  · rcases kg j with z | z
    · rw [z] at e; exact B.en.sl j s e
    · rw [z.1] at e; cases e
  · rw [← (B.ref j).1]
    rcases kg j with z | z
    · rw [z]
    · rw [z.1, z.2]; rfl
/-! ### what a for walks -/
def Walk (K : PySem.W.Frag) (J : It) (xs : List PV) (O : Addr → Prop) (Hf H : Hp) : Prop := ∀ Hf2 H2, Step O Hf H Hf2 H2 → ∀ i : Nat,
  (∀ x, xs[i]? = some x → J.go i H2 ∧ ∀ u H3, J.yld i H2 u H3 → H3 = H2 ∧ Dp K Hf2 u x) ∧ (xs.length ≤ i → J.stop i H2)
def SI (K : PySem.W.Frag) (wi : TI) (m : MI) : Prop := ∀ (ρ : Env) (xs : List PV) (ρ' : Env) (σ : L2.St) (Hf H : Hp), m ρ = some (xs, ρ') → RepE K Hf H ρ σ → ∀ R : It → Hp → Prop,
  (∀ J Hf' H', Bh K Hf H ρ σ Hf' H' ρ' → Walk K J xs (Own ρ' σ) Hf' H' → R J H') → wi σ H R
structure BI (X : Cx) (tg e : Expr) (m : MI) : Prop where
  ex : ∃ wi, PI X tg e wi ∧ SI X.K wi m
/-- a list or a tuple -/
def iSq (K : PySem.W.Frag) (tl : TE) : TI := fun σ H R => tl σ H fun x H1 => ∃ a, x = .ref a ∧ (((∃ xs, SqL K H1 a xs) ∧ R (Itl K a) H1) ∨ ((∃ xs, SqT K H1 a xs) ∧ R (Itt K a) H1))
theorem pi_sq {tg l : Expr} {tl : TE} (hl : PE X l tl) : PI X tg l (iSq X.K tl) := by
  constructor
  intro pins s σ H R I h
  refine thn (hl.run pins s σ H _ I h) ?_
  rintro v s1 ⟨x, Ha, Ia, rx, a, rfl, hc⟩
  cases rx
  have old : ∀ o : Obj, Inv X pins σ Ha { s1 with heap := s1.heap.push o } := fun o => Ia.kept (t' := s1.toks) (fun _ _ z => Heap.get?_push_of_some _ z)
  have fp : ∀ b ∈ [s1.heap.objs.size], FpOk X pins Ha b := by
    intro b hb
    rw [List.mem_singleton.mp hb]
    exact Ia.fpOk (Nat.le_refl _) (Ia.hok.fresh (Nat.le_refl _))
  rcases hc with ⟨⟨xs, hq⟩, q⟩ | ⟨⟨xs, hq⟩, q⟩
  · obtain ⟨its, _, pl, _⟩ := Ia.list hq
    exact wpAny_pyIter_list pl.isList ⟨_, [_], _, _, Ha, rfl, old _, turn_list a _, ⟨_, Heap.get?_push_size _ rfl, rfl, rfl⟩, fp, q⟩
  · obtain ⟨its, _, pl, _⟩ := Ia.tuple hq
    exact wpAny_pyIter_tuple (show s1.heap.IsTuple a its.toArray from pl) ⟨_, [_], _, _, Ha, rfl, old _, turn_tuple a _, ⟨_, Heap.get?_push_size _ rfl, rfl, rfl⟩, fp, q⟩
/-- how a list at a is walked -/
theorem walk_l {a : Addr} {us : List V} {xs : List PV} (keep : ∀ Hf2 H2, Step O Hf H Hf2 H2 → SqL K H2 a us) (d : DpAll K Hf us xs) : Walk K (Itl K a) xs O Hf H := by
  intro Hf2 H2 S i
  refine ⟨fun x hx => ?_, fun hi => ⟨us, keep _ _ S, by rw [dps_len d]; exact hi⟩⟩
  obtain ⟨u, h1, h2⟩ := dps_get d hx
  refine ⟨⟨us, u, keep _ _ S, h1⟩, fun u' H3 ⟨e, y⟩ => ⟨e, ?_⟩⟩
  have h3 := y us (keep _ _ S)
  rw [h1] at h3
  cases h3
  exact dp_mono S.ff _ _ h2
theorem walk_t {a : Addr} {us : List V} {xs : List PV} (keep : ∀ Hf2 H2, Step O Hf H Hf2 H2 → SqT K H2 a us) (d : DpAll K Hf us xs) : Walk K (Itt K a) xs O Hf H := by
  intro Hf2 H2 S i
  refine ⟨fun x hx => ?_, fun hi => ⟨us, keep _ _ S, by rw [dps_len d]; exact hi⟩⟩
  obtain ⟨u, h1, h2⟩ := dps_get d hx
  refine ⟨⟨us, u, keep _ _ S, h1⟩, fun u' H3 ⟨e, y⟩ => ⟨e, ?_⟩⟩
  have h3 := y us (keep _ _ S)
  rw [h1] at h3
  cases h3
  exact dp_mono S.ff _ _ h2
theorem si_seq {te : TE} {a : M} (ha : SE K te a) : SI K (iSq K te) (iSeq a) := by
  intro ρ xs ρ' σ Hf H hm E R q
  simp only [iSeq, Option.bind_eq_some_iff] at hm
  obtain ⟨⟨x, ρ1⟩, e1, e2⟩ := hm
  refine ha ρ x ρ1 σ Hf H e1 E _ fun u Hf1 H1 S1 E1 R1 k1 => ?_
  have B1 : Bh K Hf H ρ σ Hf1 H1 ρ1 := ⟨S1, E1, k1⟩
  cases x with
  | val v =>
    have R1' : Dp K Hf1 u v := R1
    cases v with
    | list ys =>
      cases e2
      cases R1' with
      | lst hs d => exact ⟨_, rfl, .inl ⟨⟨_, ex_l E1.ff hs⟩, q _ Hf1 H1 B1 (walk_l (fun Hf2 H2 S => ex_l S.fh (ex_l S.ff hs)) d)⟩⟩
    | tuple ys =>
      cases e2
      cases R1' with
      | tup hs d => exact ⟨_, rfl, .inr ⟨⟨_, ex_t E1.ff hs⟩, q _ Hf1 H1 B1 (walk_t (fun Hf2 H2 S => ex_t S.fh (ex_t S.ff hs)) d)⟩⟩
    | none => cases e2
    | bool b => cases e2
    | int i => cases e2
    | str y => cases e2
    | dict y => cases e2
  | new o =>
    cases o with
    | lst ys =>
      cases e2
      obtain ⟨p, rfl, z, f, us, hu, d⟩ := R1
      exact ⟨p, rfl, .inl ⟨⟨us, SqL.of hu⟩, q _ Hf1 H1 B1 (walk_l (fun Hf2 H2 S => SqL.of (S.keep p _ hu fun w => B1.no E p w z)) d)⟩⟩
    | dct ys => cases e2
  | bor i => cases e2
theorem walk_r {lo : Int} {n : Nat} : Walk K (Itr lo n) (rangeL lo n) O Hf H := by
  intro Hf2 H2 S i
  unfold rangeL
  constructor
  · intro x hx
    rw [List.getElem?_map, Option.map_eq_some_iff] at hx
    obtain ⟨k, h1, rfl⟩ := hx
    obtain ⟨h2, h3⟩ := List.getElem?_eq_some_iff.mp h1
    rw [List.getElem_range] at h3
    subst h3
    rw [List.length_range] at h2
    exact ⟨h2, fun u H3 ⟨e1, e2⟩ => ⟨e1, by rw [e2]; exact .int _⟩⟩
  · intro hi
    have h : n ≤ i := by simpa using hi
    exact h
theorem intOf_some {c : Ct} {i : Int} {u : V} (h : intOf c = some i) (r : RepC K Hf H c u) : u = .int i := by
  unfold intOf at h
  split at h
  · cases h; cases r; rfl
  · cases h
theorem si_rng1 {te : TE} {a : M} (ha : SE K te a) : SI K (L2.iRng1 (tCons te tNil)) (Py.iRng1 a) := by
  intro ρ xs ρ' σ Hf H hm E R q
  simp only [Py.iRng1, Option.bind_eq_some_iff] at hm
  obtain ⟨⟨x, ρ1⟩, e1, c, e2, n, e3, e4⟩ := hm
  split at e4
  · rename_i hz
    cases e4
    refine ha ρ x ρ1 σ Hf H e1 E _ fun u Hf1 H1 S1 E1 R1 k1 => ?_
    have B1 : Bh K Hf H ρ σ Hf1 H1 ρ1 := ⟨S1, E1, k1⟩
    have hl : (line : Int) = 16777216 := rfl
    exact ⟨n, by rw [intOf_some e3 (look_ok E1 R1 e2)], by omega, by omega, q _ Hf1 H1 B1 walk_r⟩
  · cases e4
theorem drop_get {α : Type} {xs : List α} {i : Nat} {x : α} {r : List α} (h : xs.drop i = x :: r) : xs[i]? = some x ∧ xs.drop (i + 1) = r := by
  have h1 : (xs.drop i)[0]? = some x := by rw [h]; rfl
  rw [List.getElem?_drop, Nat.add_zero] at h1
  refine ⟨h1, ?_⟩
  rw [← List.drop_drop, h]
  rfl
/-- the loop: f, ρ' its end -/
theorem loop_ok {J : It} {xs : List PV} {g : TG} {mg : MG} {tb : TS} {b : SM} {f : Fl} {D : Ends} (hg : SG K g mg) (hb : SS K tb b) (E1 : RepE K Hf1 H1 ρ1 σ) (w : Walk K J xs (Own ρ1 σ) Hf1 H1) (hl : loopF mg b xs ρ1 = some (f, ρ'))
    (q : ∀ σ' Hf' H', BhS K Hf1 H1 ρ1 σ Hf' H' ρ' σ' → FlR K D f Hf' H' H1 σ') :
    ∃ W : Nat → Nat → L2.St → Hp → Prop, (∃ m, W 0 m σ H1) ∧ ∀ i m σ H, W i m σ H → (J.stop i H ∧ D.nx σ H) ∨
      (J.go i H ∧ ∃ N : L2.St → Hp → Prop, (∀ σ' H', N σ' H' → ∃ m', m' < m ∧ W (i + 1) m' σ' H') ∧ ∀ x H', J.yld i H x H' → g x σ H' fun σ2 H2 => tb { D with nx := N, ct := N, bk := D.nx } σ2 H2) := by
  refine ⟨fun i m σ2 H2 => m = xs.length - i ∧ i ≤ xs.length ∧ ∃ ρ2 Hf2, loopF mg b (xs.drop i) ρ2 = some (f, ρ') ∧ BhS K Hf1 H1 ρ1 σ Hf2 H2 ρ2 σ2, ⟨_, rfl, Nat.zero_le _, ρ1, Hf1, hl, .refl E1⟩, ?_⟩
  rintro i m σ2 H2 ⟨rfl, hi, ρ2, Hf2, e, B⟩
  obtain ⟨w1, w2⟩ := w Hf2 H2 B.st i
  cases hd : xs.drop i with
  | nil =>
    rw [hd] at e
    cases e
    have hle : xs.length ≤ i := by
      have := congrArg List.length hd
      rw [List.length_drop, List.length_nil] at this
      omega
    exact .inl ⟨w2 hle, q σ2 Hf2 H2 B⟩
  | cons x r =>
    rw [hd] at e
    obtain ⟨hx, hr⟩ := drop_get hd
    have hlt : i < xs.length := (List.getElem?_eq_some_iff.mp hx).1
    obtain ⟨go, yl⟩ := w1 x hx
    simp only [loopF, Option.bind_eq_some_iff] at e
    obtain ⟨ρ3, e1, ⟨fb, ρ4⟩, e2, e3⟩ := e
    refine .inr ⟨go, fun σ' H' => ∃ ρ5 Hf5, loopF mg b (xs.drop (i + 1)) ρ5 = some (f, ρ') ∧ BhS K Hf1 H1 ρ1 σ Hf5 H' ρ5 σ', fun σ' H' ⟨ρ5, Hf5, h1, h2⟩ => ⟨_, by omega, rfl, hlt, ρ5, Hf5, h1, h2⟩, fun u H3 hy => ?_⟩
    obtain ⟨rfl, du⟩ := yl u H3 hy
    refine hg (.val x) ρ2 ρ3 σ2 Hf2 H3 H3 u e1 B.en du (fun p hp => by obtain ⟨⟨o, ho⟩, _⟩ := B.en.there hp; rw [ho]; exact fun z => nomatch z) _ fun σ3 Hf3 B3 => ?_
    have B3' : BhS K Hf1 H1 ρ1 σ Hf3 H3 ρ3 σ3 := B.trans ((Bh.refl B.en).g B3)
    refine hb ρ3 fb ρ4 σ3 Hf3 H3 e2 B3.en _ fun σ4 Hf4 H4 B4 => ?_
    have B4' := B3'.trans B4
    cases fb with
    | nx => exact ⟨ρ4, Hf4, by rw [hr]; exact e3, B4'⟩
    | ct => exact ⟨ρ4, Hf4, by rw [hr]; exact e3, B4'⟩
    | bk => cases e3; exact q σ4 Hf4 H4 B4'
    | rt r' => cases e3; exact (q σ4 Hf4 H4 B4').back fun p hp => B3'.fresh hp
theorem ss_for {wi : TI} {g : TG} {tb : TS} {it : MI} {mg : MG} {b : SM} (hi : SI K wi it) (hg : SG K g mg) (hb : SS K tb b) : SS K (tFor wi g tb) (sFor it mg b) := by
  intro ρ f ρ' σ Hf H hm E D q
  simp only [sFor, Option.bind_eq_some_iff] at hm
  obtain ⟨⟨xs, ρ1⟩, e1, e2⟩ := hm
  refine hi ρ xs ρ1 σ Hf H e1 E _ fun J Hf1 H1 B1 w => ?_
  exact loop_ok hg hb B1.en w e2 fun σ' Hf' H' B => (q σ' Hf' H' (B1.s.trans B)).back fun p hp => B1.fresh hp
theorem whileF_some {t : MT} {b : SM} {x : Fl × Env} (h : sWhile t b ρ = some x) : ∃ n, whileF t b n ρ = some x := by
  unfold sWhile at h
  split at h
  · rename_i c; exact ⟨_, h⟩
  · cases h
theorem ss_while {tt : TT} {tb : TS} {t : MT} {b : SM} (ht : ST K tt t) (hb : SS K tb b) : SS K (tWhile tt tb) (sWhile t b) := by
  intro ρ f ρ' σ Hf H hm E D q
  obtain ⟨n, hn⟩ := whileF_some hm
  refine ⟨fun m σ2 H2 => ∃ ρ2 Hf2, whileF t b m ρ2 = some (f, ρ') ∧ BhS K Hf H ρ σ Hf2 H2 ρ2 σ2, ⟨n, ρ, Hf, hn, .refl E⟩, ?_⟩
  rintro m σ2 H2 ⟨ρ2, Hf2, e, B⟩
  cases m with
  | zero => cases e
  | succ m =>
    simp only [whileF, Option.bind_eq_some_iff] at e
    obtain ⟨⟨x, ρ3⟩, e1, e2⟩ := e
    refine ht ρ2 x ρ3 σ2 Hf2 H2 e1 B.en _ fun Hf3 H3 S3 E3 k3 => ?_
    have B3 := B.trans (⟨S3, E3, k3⟩ : Bh K Hf2 H2 ρ2 σ2 Hf3 H3 ρ3).s
    cases x with
    | false =>
      simp only [Bool.false_eq_true, if_false] at e2 ⊢
      cases e2
      exact q σ2 Hf3 H3 B3
    | true =>
      simp only [if_true, Option.bind_eq_some_iff] at e2 ⊢
      obtain ⟨⟨fb, ρ4⟩, e3, e4⟩ := e2
      refine ⟨fun σ' H' => ∃ ρ5 Hf5, whileF t b m ρ5 = some (f, ρ') ∧ BhS K Hf H ρ σ Hf5 H' ρ5 σ', fun σ' H' h => ⟨m, Nat.lt_succ_self _, h⟩, ?_⟩
      refine hb ρ3 fb ρ4 σ2 Hf3 H3 e3 E3 _ fun σ4 Hf4 H4 B4 => ?_
      have B4' := B3.trans B4
      cases fb with
      | nx => exact ⟨ρ4, Hf4, e4, B4'⟩
      | ct => exact ⟨ρ4, Hf4, e4, B4'⟩
      | bk => cases e4; exact q σ4 Hf4 H4 B4'
      | rt r' => cases e4; exact (q σ4 Hf4 H4 B4').back fun p hp => B3.fresh hp
end

/-! ### the rules -/
section
variable {X : Cx} {a b c : Expr} {ma mb mc : M} {mt : MT} {m n : SM} {st : Stmt} {sts sts2 : List Stmt} {x y : Str} {p p' pos : Pos} {mi : MI} {g : MG}
theorem bss_nil : BSs X [] sNext := ⟨_, pss_nil, ss_next⟩
theorem bss_one (h : BS X st m) : BSs X [st] m := let ⟨t, h1, h2⟩ := h; ⟨_, pss_one h1, h2⟩
theorem bss_cons (h : BS X st m) (hr : BSs X sts n) : BSs X (st :: sts) (sSeq m n) := let ⟨t, h1, h2⟩ := h; let ⟨u, h3, h4⟩ := hr; ⟨_, pss_cons h1 h3, ss_seq h2 h4⟩
theorem bss_fgt (is : List Nat) (h : BSs X sts m) : BSs X sts (sFgt is m) := let ⟨t, h1, h2⟩ := h; ⟨_, h1, ss_fgt is h2⟩
theorem bs_fgt (is : List Nat) (h : BS X st m) : BS X st (sFgt is m) := let ⟨t, h1, h2⟩ := h; ⟨_, h1, ss_fgt is h2⟩
theorem bs_if (hc : BT X c mt) (ha : BSs X sts m) (hb : BSs X sts2 n) : BS X (.If c sts sts2 pos) (sIf mt m n) := let ⟨t, h1, h2⟩ := hc; let ⟨u, h3, h4⟩ := ha; let ⟨w, h5, h6⟩ := hb; ⟨_, ps_if h1 h3 h5, ss_if h2 h4 h6⟩
theorem bs_ret (ha : BE X a ma) : BS X (.Return (some a) pos) (sRet ma) := let ⟨t, h1, h2⟩ := ha; ⟨_, ps_ret h1, ss_ret h2⟩
theorem bs_expr (ha : BE X a ma) (hs : swapsWith a none pos.line X.env = pure false := by rfl) : BS X (.Expr a pos) (sExpr ma) := let ⟨t, h1, h2⟩ := ha; ⟨_, ps_expr h1 hs, ss_expr h2⟩
theorem bs_set (i : Nat) (hN : X.N.Nodup) (ha : BE X a ma) (hi : X.N[i]? = some x := by rfl) (hx : Loc X.env.scope x := by first | exact Or.inl rfl | exact Or.inr rfl) (hs : swapsWith a (some (.Name x p')) pos.line X.env = pure false := by rfl)
    (hf : X.fn x = true ∨ X.env.scope.names.lookup x = some .local := by first | exact .inl rfl | exact .inr rfl | assumption) : BS X (.Assign [.Name x p'] a pos) (sAsg ma (Py.gName i)) :=
  let ⟨t, h1, h2⟩ := ha; ⟨_, ps_set hN hi hx h1 hs hf, ss_asg h2 (sg_name i)⟩
theorem bs_setIx (i : Nat) {e : Expr} {me : M} (ho : PE X (.Name x p) (tVar i)) (he : BE X e me) (ha : BE X a ma) (hs : swapsWithSole [.Subscript (.Name x p) e p'] a pos.line X.env = pure false := by rfl) (hw : swappedStores [.Subscript (.Name x p) e p'] a X.env = pure none := by rfl)
    (h1 : (assignEach [.Subscript (.Name x p) e p'] X.env).map (·.2) = [assign (.Subscript (.Name x p) e p') X.env] := by rfl)
    (hq : ∀ v, assign (.Subscript (.Name x p) e p') X.env v = (do
      let ov ← holding [v] (eval (.Name x p) X.env)
      let iv ← holding [v, ov] (eval e X.env)
      standAt p'
      holding [v, ov, iv] (setItem ov iv v)
      release [v, ov, iv] []) := by intro _; rfl) : BS X (.Assign [.Subscript (.Name x p) e p'] a pos) (sSetIx i me ma) := by
  obtain ⟨t, a1, a2⟩ := ha
  obtain ⟨u, b1, b2⟩ := he
  exact ⟨_, ps_asg a1 (pg_sub ho b1 set_list hq) hs hw h1, ss_setIx a2 b2⟩
structure BGs (X : Cx) (ts : List Expr) (is : List Nat) : Prop where
  ex : PGs X ts (tNames is)
theorem bi_seq {tg : Expr} (ha : BE X a ma) : BI X tg a (iSeq ma) := let ⟨t, h1, h2⟩ := ha; ⟨_, pi_sq h1, si_seq h2⟩
theorem bi_rng1 {tg : Expr} (hg : Gl X "range") (hm : X.mg "range" = none) (ha : BE X a ma) (hs : starEach [a] X.env = [(false, eval a X.env)] := by rfl) (hs' : starEach [a] X.env = (false, eval a X.env) :: starEach [] X.env := by rfl) : BI X tg (.Call (.Name "range" p) [a] [] pos) (Py.iRng1 ma) :=
  let ⟨t, h1, h2⟩ := ha; ⟨_, pi_range1 hg hm (pa_cons h1 pa_nil hs') hs, si_rng1 h2⟩
theorem bs_for {tg : Expr} (hp : PassesOwn (model X.prog X.w) X.A X.env X.xe) (hc : X.calm = true) (hi : BI X tg a mi) (hg : BG X tg g) (hb : BSs X sts m) (hs : ∀ x, foldedSetIterable a X.env x = pure x := by intro _; rfl) : BS X (.For tg a sts [] pos) (sFor mi g m) :=
  let ⟨t, h1, h2⟩ := hi; let ⟨u, h3, h4⟩ := hg; let ⟨w, h5, h6⟩ := hb; ⟨_, ps_for hp hc h1 h3 h5 hs, ss_for h2 h4 h6⟩
theorem bs_while (hp : PassesOwn (model X.prog X.w) X.A X.env X.xe) (hc : BT X c mt) (hb : BSs X sts m) : BS X (.While c sts [] pos) (sWhile mt m) :=
  let ⟨t, h1, h2⟩ := hc; let ⟨w, h5, h6⟩ := hb; ⟨_, ps_while hp h1 h5, ss_while h2 h6⟩
end
end Py
/-! Py6: comprehensions; defs and their calls. -/
namespace Py
open PySem PySem.Spec PyProof.Rows L2

/-- the reading that a meaning has of itself -/
def rE (K : PySem.W.Frag) (m : M) : TE := fun σ H Q => ∃ (ρ : Env) (r : R) (ρ' : Env) (Hf : Hp), m ρ = some (r, ρ') ∧ RepE K Hf H ρ σ ∧ ∀ u Hf' H', Step (Own ρ σ) Hf H Hf' H' → RepE K Hf' H' ρ' σ → RepR K Hf' H' H σ r u → Kp ρ ρ' → Q u H'
def rT (K : PySem.W.Frag) (m : MT) : TT := fun σ H Q => ∃ (ρ : Env) (b : Bool) (ρ' : Env) (Hf : Hp), m ρ = some (b, ρ') ∧ RepE K Hf H ρ σ ∧ ∀ Hf' H', Step (Own ρ σ) Hf H Hf' H' → RepE K Hf' H' ρ' σ → Kp ρ ρ' → Q b H'
theorem se_rE {K : PySem.W.Frag} {m : M} : SE K (rE K m) m := fun ρ r ρ' σ Hf H hm E Q q => ⟨ρ, r, ρ', Hf, hm, E, q⟩
theorem st_rT {K : PySem.W.Frag} {m : MT} : ST K (rT K m) m := fun ρ r ρ' σ Hf H hm E Q q => ⟨ρ, r, ρ', Hf, hm, E, q⟩
theorem BE.can {X : Cx} {e : Expr} {m : M} (h : BE X e m) : PE X e (rE X.K m) := by
  obtain ⟨te, h1, h2⟩ := h
  exact ⟨fun pins s σ H Q I ⟨ρ, r, ρ', Hf, hm, E, q⟩ => h1.run pins s σ H Q I (h2 ρ r ρ' σ Hf H hm E Q q)⟩
theorem BT.can {X : Cx} {e : Expr} {m : MT} (h : BT X e m) : PT X e (rT X.K m) := by
  obtain ⟨te, h1, h2⟩ := h
  exact ⟨fun pins s σ H Q I ⟨ρ, r, ρ', Hf, hm, E, q⟩ => h1.run pins s σ H Q I (h2 ρ r ρ' σ Hf H hm E Q q)⟩
structure BTs (X : Cx) (ifs : List Expr) (m : MT) : Prop where
  ex : ∃ tt, PTs X ifs tt ∧ ST X.K tt m
theorem bts_nil {X : Cx} : BTs X [] tYes := ⟨_, pts_nil, fun ρ r ρ' σ Hf H hm E Q q => by cases hm; exact q Hf H (.refl E.ff) E .refl⟩
theorem bts_one {X : Cx} {c : Expr} {m : MT} (h : BT X c m) : BTs X [c] m := let ⟨t, h1, h2⟩ := h; ⟨_, pts_one h1, h2⟩
theorem BTs.can {X : Cx} {e : List Expr} {m : MT} (h : BTs X e m) : PTs X e (rT X.K m) := by
  obtain ⟨te, h1, h2⟩ := h
  exact ⟨fun pins s σ H Q I ⟨ρ, r, ρ', Hf, hm, E, q⟩ => h1.run pins s σ H Q I (h2 ρ r ρ' σ Hf H hm E Q q)⟩

section
variable {K : PySem.W.Frag} {Hf H Hf' H' Hf1 H1 Hf2 H2 H0 : Hp} {ρ ρ' ρ1 ρ2 : Env} {σ σ' σ1 σ2 : L2.St} {O O' O1 : Addr → Prop} {X : Cx}
theorem get_wipe (vs : List Nat) (j : Nat) : get (Py.wipe ρ vs) j = if j ∈ vs then none else get ρ j := by
  induction vs with
  | nil => simp [Py.wipe]
  | cons v vs ih =>
    unfold Py.wipe
    rw [get_set, ih]
    by_cases h : v = j
    · subst h
      by_cases hl : v < (Py.wipe ρ vs).length
      · simp [hl]
      · rw [if_neg (fun z => hl z.2)]
        have : get ρ v = none := by
          have wl : ∀ vs : List Nat, (Py.wipe ρ vs).length = ρ.length := fun vs => by
            induction vs with
            | nil => rfl
            | cons w ws ih => unfold Py.wipe; rw [List.length_set]; exact ih
          rw [wl] at hl
          unfold get
          rw [List.getElem?_eq_none (by omega)]
          rfl
        simp [this]
    · rw [if_neg (fun z => h z.1)]
      simp only [List.mem_cons]
      by_cases hj : j ∈ vs
      · simp [hj]
      · simp [hj, Ne.symm h]
theorem wipe_len (vs : List Nat) : (Py.wipe ρ vs).length = ρ.length := by
  induction vs with
  | nil => rfl
  | cons w ws ih => unfold Py.wipe; rw [List.length_set]; exact ih
theorem slot_wipe (vs : List Nat) (j : Nat) : slot (L2.wipe σ vs) j = if j ∈ vs then none else slot σ j := by
  induction vs with
  | nil => simp [L2.wipe]
  | cons v vs ih =>
    unfold L2.wipe
    rw [slot_set, ih]
    by_cases h : v = j
    · subst h
      by_cases hl : v < (L2.wipe σ vs).length
      · simp [hl]
      · rw [if_neg (fun z => hl z.2)]
        have : slot σ v = none := by
          rw [wipe_length] at hl
          unfold slot
          rw [List.getElem?_eq_none (by omega)]
          rfl
        simp [this]
    · rw [if_neg (fun z => h z.1)]
      simp only [List.mem_cons]
      by_cases hj : j ∈ vs
      · simp [hj]
      · simp [hj, Ne.symm h]
theorem RepE.wipe (E : RepE K Hf H ρ σ) (vs : List Nat) : RepE K Hf H (Py.wipe ρ vs) (L2.wipe σ vs) := by
  have sub : ∀ j p, OwnAt (Py.wipe ρ vs) (L2.wipe σ vs) j p → OwnAt ρ σ j p := fun j p ⟨a, b⟩ => by
    rw [get_wipe] at a
    rw [slot_wipe] at b
    by_cases hj : j ∈ vs
    · rw [if_pos hj] at a; cases a
    · rw [if_neg hj] at a b; exact ⟨a, b⟩
  refine ⟨by rw [wipe_len, wipe_length]; exact E.len, E.ff, fun j s e => ?_, fun j k p a b => E.dis j k p (sub j p a) (sub k p b)⟩
  rw [get_wipe] at e
  rw [slot_wipe]
  by_cases hj : j ∈ vs
  · rw [if_pos hj] at e; cases e
  · rw [if_neg hj] at e ⊢; exact E.sl j s e
theorem wipe_get? (σ : L2.St) (vs : List Nat) (j : Nat) : (L2.wipe σ vs)[j]? = if j ∈ vs ∧ j < σ.length then some none else σ[j]? := by
  induction vs with
  | nil => simp [L2.wipe]
  | cons v vs ih =>
    unfold L2.wipe
    by_cases h : v = j
    · subst h
      by_cases hl : v < σ.length
      · rw [List.getElem?_set_self (by rw [wipe_length]; exact hl)]; simp [hl]
      · rw [List.getElem?_eq_none (by rw [List.length_set, wipe_length]; omega)]; simp [hl]
    · rw [List.getElem?_set_ne h, ih]
      simp [Ne.symm h]
/-- a target of a comprehension: it stores at the block's own names alone -/
structure TgIn (g : TG) (mg : MG) (vs : List Nat) : Prop where
  a : ∀ u σ H Q, g u σ H Q → g u σ H fun σ2 H2 => Q σ2 H2 ∧ L2.wipe σ2 vs = L2.wipe σ vs
  b : ∀ v ρ ρ', mg (.val v) ρ = some ρ' → ∀ j, j ∉ vs → get ρ' j = get ρ j
  c : ∀ u σ H (Q Q' : L2.St → Hp → Prop), (∀ σ2 H2, Q σ2 H2 → Q' σ2 H2) → g u σ H Q → g u σ H Q'
theorem wipe_set {vs : List Nat} {i : Nat} (h : i ∈ vs) (x : Option V) : L2.wipe (σ.set i x) vs = L2.wipe σ vs := by
  apply List.ext_getElem?
  intro j
  rw [wipe_get?, wipe_get?, List.length_set]
  by_cases hj : j ∈ vs ∧ j < σ.length
  · rw [if_pos hj, if_pos hj]
  · rw [if_neg hj, if_neg hj]
    by_cases e : i = j
    · subst e
      have : ¬ i < σ.length := fun z => hj ⟨h, z⟩
      rw [List.getElem?_eq_none (by rw [List.length_set]; omega), List.getElem?_eq_none (by omega)]
    · rw [List.getElem?_set_ne e]
theorem tgIn_name {i : Nat} {vs : List Nat} (h : i ∈ vs) : TgIn (L2.gName i) (Py.gName i) vs := ⟨fun u σ H Q q => ⟨q, wipe_set h _⟩, fun v ρ ρ' hm j hj => by
  have hm' : put i (some (.val v)) ρ = some ρ' := hm
  unfold put at hm'
  split at hm'
  · cases hm'
  · cases hm'
    rw [get_set, if_neg]
    rintro ⟨rfl, _⟩
    exact hj h, fun u σ H Q Q' h q => h _ _ q⟩
/-- one object, which is nobody's, is laid or changed -/
theorem Step.at {D : Addr} {o : HO} (e : Ex Hf H) (f : Hf D = none) : Step (fun a => a = D) Hf H Hf (upd H D o) := by
  refine ⟨fun _ _ h => h, fun a u h => by rw [upd_ne (ne_of_none h f)]; exact e a u h, fun a u h n => by rw [upd_ne n]; exact h, fun _ _ _ _ => rfl, fun a u h => ?_⟩
  by_cases z : a = D
  · subst z; exact ⟨_, upd_same⟩
  · exact ⟨u, by rw [upd_ne z]; exact h⟩
/-- what a comprehension's turns leave of the names -/
def Nm (vs : List Nat) (ρ1 ρ2 : Env) : Prop := ρ2.length = ρ1.length ∧ ∀ j, j ∉ vs → (isOb (get ρ2 j) = true → isOb (get ρ1 j) = true) ∧ isRef (get ρ2 j) = isRef (get ρ1 j)
theorem own_wipe {vs : List Nat} (n : Nm vs ρ1 ρ2) {p : Addr} (h : Own (Py.wipe ρ2 vs) (L2.wipe σ vs) p) : Own (Py.wipe ρ1 vs) (L2.wipe σ vs) p := by
  obtain ⟨j, a, b⟩ := h
  refine ⟨j, ?_, b⟩
  rw [get_wipe] at a ⊢
  by_cases hj : j ∈ vs
  · rw [if_pos hj] at a; cases a
  · rw [if_neg hj] at a ⊢; exact (n.2 j hj).1 a
structure LcS (K : PySem.W.Frag) (Hf1 H1 : Hp) (ρ1 : Env) (σ : L2.St) (vs : List Nat) (D : Addr) (n : Nat) (done : List PV) (ρ2 : Env) (Hf2 H2 : Hp) : Prop where
  acc : ∃ us, H2 D = some (.lst us) ∧ DpAll K Hf2 us done
  few : done.length ≤ n
  fd : Hf2 D = none
  st : Step (Own (Py.wipe ρ1 vs) (L2.wipe σ vs)) Hf1 H1 Hf2 H2
  en : RepE K Hf2 H2 (Py.wipe ρ2 vs) (L2.wipe σ vs)
  nm : Nm vs ρ1 ρ2
theorem get_back (vs : List Nat) (j : Nat) (ρ0 : Env) : get (back ρ0 vs ρ) j = if j ∈ vs ∧ j < ρ.length then get ρ0 j else get ρ j := by
  have bl : ∀ vs : List Nat, (back ρ0 vs ρ).length = ρ.length := fun vs => by
    induction vs with
    | nil => rfl
    | cons v vs ih => unfold back; rw [List.length_set]; exact ih
  induction vs with
  | nil => simp [back]
  | cons v vs ih =>
    unfold back
    rw [get_set, ih, bl]
    by_cases h : v = j
    · subst h
      by_cases hl : v < ρ.length
      · simp [hl]
      · simp [hl]
    · rw [if_neg (fun z => h z.1)]
      simp only [List.mem_cons, Ne.symm h, false_or]
theorem back_len (vs : List Nat) (ρ0 : Env) : (back ρ0 vs ρ).length = ρ.length := by
  induction vs with
  | nil => rfl
  | cons v vs ih => unfold back; rw [List.length_set]; exact ih
/-- behind the comprehension -/
theorem lc_end {vs : List Nat} {D : Addr} {n : Nat} {done : List PV} (E1 : RepE K Hf1 H1 ρ1 σ) (hD : H1 D = none) (L : LcS K Hf1 H1 ρ1 σ vs D n done ρ2 Hf2 H2) :
    Bh K Hf1 H1 ρ1 σ Hf2 H2 (back ρ1 vs ρ2) ∧ RepR K Hf2 H2 H1 σ (.new (.lst done)) (.ref D) := by
  obtain ⟨us, h1, h2⟩ := L.acc
  have wsub : ∀ p, Own (Py.wipe ρ1 vs) (L2.wipe σ vs) p → ∃ j, j ∉ vs ∧ OwnAt ρ1 σ j p := fun p ⟨j, a, b⟩ => by
    rw [get_wipe] at a
    rw [slot_wipe] at b
    by_cases hj : j ∈ vs
    · rw [if_pos hj] at a; cases a
    · rw [if_neg hj] at a b; exact ⟨j, hj, a, b⟩
  have gb : ∀ j, get (back ρ1 vs ρ2) j = if j ∈ vs then get ρ1 j else get ρ2 j := fun j => by
    rw [get_back]
    by_cases hj : j ∈ vs
    · by_cases hl : j < ρ2.length
      · rw [if_pos ⟨hj, hl⟩, if_pos hj]
      · rw [if_neg (fun z => hl z.2), if_pos hj]
        have l1 : ¬ j < ρ1.length := by rw [← L.nm.1]; exact hl
        unfold get
        rw [List.getElem?_eq_none (by omega), List.getElem?_eq_none (by omega)]
    · rw [if_neg (fun z => hj z.1), if_neg hj]
  have ob : ∀ j, isOb (get (back ρ1 vs ρ2) j) = true → isOb (get ρ1 j) = true := fun j h => by
    rw [gb] at h
    by_cases hj : j ∈ vs
    · rw [if_pos hj] at h; exact h
    · rw [if_neg hj] at h; exact (L.nm.2 j hj).1 h
  refine ⟨⟨L.st.weak fun p hp => .inl (let ⟨j, _, h⟩ := wsub p hp; ⟨j, h⟩), ⟨?_, L.en.ff, fun j s e => ?_, fun j k p a b => E1.dis j k p ⟨ob j a.1, a.2⟩ ⟨ob k b.1, b.2⟩⟩, ⟨ob, fun j => ?_⟩⟩, ⟨D, rfl, hD, L.fd, us, h1, h2⟩⟩
  · rw [back_len, L.nm.1]; exact E1.len
  · rw [gb] at e
    by_cases hj : j ∈ vs
    · rw [if_pos hj] at e
      obtain ⟨u, a, b⟩ := E1.sl j s e
      refine ⟨u, a, b.step L.st fun p ho hu hp => ?_⟩
      obtain ⟨k, hk, ok⟩ := wsub p hp
      have : j = k := E1.dis j k p ⟨by rw [e]; exact ho, by rw [a, hu]⟩ ok
      exact hk (this ▸ hj)
    · rw [if_neg hj] at e
      have e' : get (Py.wipe ρ2 vs) j = some s := by rw [get_wipe, if_neg hj]; exact e
      obtain ⟨u, a, b⟩ := L.en.sl j s e'
      rw [slot_wipe, if_neg hj] at a
      exact ⟨u, a, b⟩
  · rw [gb]
    by_cases hj : j ∈ vs
    · rw [if_pos hj]
    · rw [if_neg hj]; exact (L.nm.2 j hj).2
theorem lc_turn {g : TG} {mg : MG} {tt : TT} {te : TE} {t : MT} {e : M} {vs : List Nat} {D : Addr} {n : Nat} {done ys : List PV} {x : PV} {u : V} {ρ3 : Env} (hg : SG K g mg) (hv : TgIn g mg vs) (ht : ST K tt t) (he : SE K te e) (hD : H1 D = none) (E1 : RepE K Hf1 H1 ρ1 σ)
    (hz : n < line) (L : LcS K Hf1 H1 ρ1 σ vs D n done ρ2 Hf2 H2) (hx : Dp K Hf2 u x) (hm : lcTurn mg vs t e x ρ2 = some (ys, ρ3)) {Nx : Hp → Prop} (hN : ∀ Hf3 H3, LcS K Hf1 H1 ρ1 σ vs D (n + 1) (done ++ ys) ρ3 Hf3 H3 → Nx H3) :
    g u (L2.wipe σ vs) H2 fun σ2 H3 => L2.wipe σ2 vs = L2.wipe σ vs ∧ tt σ2 H3 fun b H4 =>
      if b = true then te σ2 H4 fun y H5 => ∃ acc, H5 D = some (.lst acc) ∧ acc.length < sizeLine ∧ Nx (upd H5 D (.lst (acc ++ [y]))) else Nx H4 := by
  simp only [lcTurn, Option.bind_eq_some_iff] at hm
  obtain ⟨ρ4, e1, ⟨b, ρ5⟩, e2, e3⟩ := hm
  have ww : L2.wipe (L2.wipe σ vs) vs = L2.wipe σ vs := by
    apply List.ext_getElem?
    intro j
    rw [wipe_get?, wipe_length, wipe_get?]
    by_cases hj : j ∈ vs ∧ j < σ.length <;> simp [hj]
  have kn : ∀ q, Own (Py.wipe ρ2 vs) (L2.wipe σ vs) q → H2 q ≠ none := fun q hq z => by
    obtain ⟨⟨o, ho⟩, _⟩ := L.en.there hq
    rw [z] at ho; cases ho
  have g1 : g u (L2.wipe σ vs) H2 fun σ4 H3 => H3 = H2 ∧ ∃ Hf4, BhG K Hf2 H2 H2 (Py.wipe ρ2 vs) (L2.wipe σ vs) Hf4 ρ4 σ4 := hg (.val x) (Py.wipe ρ2 vs) ρ4 (L2.wipe σ vs) Hf2 H2 H2 u e1 L.en hx kn _ fun σ4 Hf4 B4 => ⟨rfl, Hf4, B4⟩
  refine hv.c u _ _ _ _ ?_ (hv.a u _ _ _ g1)
  rintro σ4 H3 ⟨⟨rfl, Hf4, B4⟩, w4⟩
  rw [ww] at w4
  refine ⟨w4, ?_⟩
  obtain ⟨us, hus, dus⟩ := L.acc
  -- the new list is none of the names' objects
  have own4 : ∀ p, Own ρ4 σ4 p → Own (Py.wipe ρ1 vs) (L2.wipe σ vs) p ∨ H1 p = none ∧ H3 p = none := fun p hp => by
    rcases B4.own p hp with z | z
    · exact .inl (own_wipe L.nm z)
    · exact .inr ⟨L.st.fresh z, z⟩
  have nD1 : ¬ Own (Py.wipe ρ1 vs) (L2.wipe σ vs) D := fun ⟨j, a, b⟩ => by
    rw [get_wipe] at a
    rw [slot_wipe] at b
    by_cases hj : j ∈ vs
    · rw [if_pos hj] at a; cases a
    · rw [if_neg hj] at a b
      obtain ⟨⟨o, ho⟩, _⟩ := E1.there ⟨j, a, b⟩
      rw [hD] at ho; cases ho
  have nD4 : ¬ Own ρ4 σ4 D := fun h => by
    rcases own4 D h with z | ⟨_, z⟩
    · exact nD1 z
    · rw [hus] at z; cases z
  have nm4 : ∀ j, j ∉ vs → get ρ4 j = get ρ2 j := fun j hj => by rw [hv.b x _ _ e1 j hj, get_wipe, if_neg hj]
  have len4 : ρ4.length = ρ1.length := by
    rw [B4.en.len, ← wipe_length σ4 vs, w4, wipe_length, ← E1.len]
  have st4 : Step (Own (Py.wipe ρ1 vs) (L2.wipe σ vs)) Hf1 H1 Hf4 H3 := L.st.trans B4.st fun p hp => by
    rcases hp with z | z
    · exact .inl (own_wipe L.nm z)
    · exact .inr (L.st.fresh z)
  have fd4 : Hf4 D = none := by rw [B4.st.nof D _ hus (fun z => by rcases z with z | z; exact nD1 (own_wipe L.nm z); rw [hus] at z; cases z)]; exact L.fd
  -- behind what was evaluated in the block
  have fin : ∀ {Hf5 H5 : Hp} {ρ5 : Env}, Bh K Hf4 H3 ρ4 σ4 Hf5 H5 ρ5 → Step (Own (Py.wipe ρ1 vs) (L2.wipe σ vs)) Hf1 H1 Hf5 H5 ∧ RepE K Hf5 H5 (Py.wipe ρ5 vs) (L2.wipe σ vs) ∧ Nm vs ρ1 ρ5 ∧ H5 D = some (.lst us) ∧ Hf5 D = none ∧ DpAll K Hf5 us done := fun {Hf5 H5 ρ5} B => by
    refine ⟨st4.trans B.st fun p hp => (own4 p hp).imp id (·.1), ?_, ⟨?_, fun j hj => ⟨fun h => ?_, ?_⟩⟩, B.st.keep D _ hus nD4, ?_, dps_mono B.st.ff _ _ (dps_mono B4.st.ff _ _ dus)⟩
    · have := B.en.wipe vs
      rw [w4] at this
      exact this
    · rw [B.en.len, ← B4.en.len]; exact len4
    · have h4 := B.kp.own j h
      rw [nm4 j hj] at h4
      exact (L.nm.2 j hj).1 h4
    · rw [B.kp.ref j, nm4 j hj]; exact (L.nm.2 j hj).2
    · rw [B.st.nof D _ hus nD4]; exact fd4
  refine ht ρ4 b ρ5 σ4 Hf4 H3 e2 B4.en _ fun Hf5 H5 S5 E5 k5 => ?_
  have B5 : Bh K Hf4 H3 ρ4 σ4 Hf5 H5 ρ5 := ⟨S5, E5, k5⟩
  cases b with
  | false =>
    simp only [Bool.false_eq_true, if_false] at e3 ⊢
    cases e3
    obtain ⟨f1, f2, f3, f4, f5, f6⟩ := fin B5
    rw [List.append_nil] at hN
    exact hN Hf5 H5 ⟨⟨us, f4, f6⟩, Nat.le_succ_of_le L.few, f5, f1, f2, f3⟩
  | true =>
    simp only [if_true, Option.bind_eq_some_iff, Option.map_eq_some_iff, Prod.mk.injEq] at e3 ⊢
    obtain ⟨⟨r, ρ6⟩, e4, ⟨v, ρ7⟩, e5, rfl, rfl⟩ := e3
    refine he ρ5 r ρ6 σ4 Hf5 H5 e4 E5 _ fun y Hf6 H6 S6 E6 R6 k6 => ?_
    have B6 : Bh K Hf5 H5 ρ5 σ4 Hf6 H6 ρ6 := ⟨S6, E6, k6⟩
    obtain ⟨Hf7, B7, d7⟩ := B6.frz E5 R6 e5
    obtain ⟨f1, f2, f3, f4, f5, f6⟩ := fin (B5.trans B7)
    have lu : us.length = done.length := dps_len f6
    have st := Step.at (o := .lst (us ++ [y])) f2.ff f5
    refine ⟨us, f4, by rw [← line_eq, lu]; exact Nat.lt_of_le_of_lt L.few hz, hN Hf7 _ ⟨⟨us ++ [y], upd_same, dps_app f6 (.cons d7 .nil)⟩, by rw [List.length_append]; exact Nat.succ_le_succ L.few, f5, f1.trans st fun p hp => .inr (by rw [hp]; exact hD), f2.step st fun p hp z => ?_, f3⟩⟩
    rw [z] at hp
    exact nD1 (own_wipe f3 hp)
theorem lcF_some {f : PV → Env → Option (List PV × Env)} {x : PV} {xs : List PV} {z : List PV × Env} (h : lcF f (x :: xs) ρ = some z) : ∃ ys ρ2 zs, f x ρ = some (ys, ρ2) ∧ lcF f xs ρ2 = some (zs, z.2) ∧ z.1 = ys ++ zs := by
  simp only [lcF, Option.bind_eq_some_iff, Option.map_eq_some_iff] at h
  obtain ⟨⟨ys, ρ2⟩, e1, ⟨zs, ρ3⟩, e2, rfl⟩ := h
  exact ⟨ys, ρ2, zs, e1, e2, rfl⟩
theorem se_lc {wi : TI} {g : TG} {tt : TT} {te : TE} {it : MI} {mg : MG} {t : MT} {e : M} (vs : List Nat) (hi : SI K wi it) (hg : SG K g mg) (hv : TgIn g mg vs) (ht : ST K tt t) (he : SE K te e) : SE K (tLc wi g tt te vs) (mLc it mg vs t e) := by
  intro ρ r ρ' σ Hf H hm E Q q
  simp only [mLc, Option.bind_eq_some_iff] at hm
  obtain ⟨⟨xs, ρ1⟩, e1, e2⟩ := hm
  split at e2
  · rename_i hz
    simp only [Option.map_eq_some_iff, Prod.mk.injEq] at e2
    obtain ⟨⟨total, ρe⟩, e3, rfl, rfl⟩ := e2
    refine hi ρ xs ρ1 σ Hf H e1 E _ fun J Hf1 H1 B1 w => ?_
    intro D hD
    have fD : Hf1 D = none := by
      cases z : Hf1 D with
      | none => rfl
      | some o => have := B1.en.ff D o z; rw [hD] at this; cases this
    have st0 := Step.at (o := .lst []) B1.en.ff fD
    have wsub : ∀ p, Own (Py.wipe ρ1 vs) (L2.wipe σ vs) p → Own ρ1 σ p := fun p ⟨j, a, b⟩ => by
      rw [get_wipe] at a
      rw [slot_wipe] at b
      by_cases hj : j ∈ vs
      · rw [if_pos hj] at a; cases a
      · rw [if_neg hj] at a b; exact ⟨j, a, b⟩
    refine ⟨fun i m H2 => m = xs.length - i ∧ i ≤ xs.length ∧ ∃ ρ2 Hf2 done rest, lcF (lcTurn mg vs t e) (xs.drop i) ρ2 = some (rest, ρe) ∧ total = done ++ rest ∧ LcS K Hf1 H1 ρ1 σ vs D i done ρ2 Hf2 H2,
      ⟨_, rfl, Nat.zero_le _, ρ1, Hf1, [], total, e3, rfl, ⟨⟨[], upd_same, .nil⟩, Nat.le_refl _, fD, st0.weak fun p hp => .inr (by rw [hp]; exact hD), ?_, rfl, fun j _ => ⟨id, rfl⟩⟩⟩, ?_⟩
    · refine (B1.en.wipe vs).step st0 fun p hp z => ?_
      obtain ⟨⟨o, ho⟩, _⟩ := B1.en.there (wsub p hp)
      rw [z, hD] at ho; cases ho
    · rintro i m H2 ⟨rfl, hi', ρ2, Hf2, done, rest, h1, rfl, L⟩
      obtain ⟨w1, w2⟩ := w Hf2 H2 (L.st.weak fun p hp => .inl (wsub p hp)) i
      cases hd : xs.drop i with
      | nil =>
        rw [hd] at h1
        cases h1
        have hle : xs.length ≤ i := by
          have := congrArg List.length hd
          rw [List.length_drop, List.length_nil] at this
          omega
        refine .inl ⟨w2 hle, ?_⟩
        obtain ⟨Be, Re⟩ := lc_end B1.en hD L
        rw [List.append_nil] at q
        have B := B1.trans Be
        exact q _ Hf2 H2 B.st B.en (Re.back fun p hp => B1.fresh hp) B.kp
      | cons x xr =>
        rw [hd] at h1
        obtain ⟨hx, hr⟩ := drop_get hd
        have hlt : i < xs.length := (List.getElem?_eq_some_iff.mp hx).1
        obtain ⟨go, yl⟩ := w1 x hx
        obtain ⟨ys, ρ3, zs, t1, t2, t3⟩ := lcF_some h1
        have t3' : rest = ys ++ zs := t3
        subst t3'
        refine .inr ⟨go, fun H' => ∃ Hf3, LcS K Hf1 H1 ρ1 σ vs D (i + 1) (done ++ ys) ρ3 Hf3 H', fun H' ⟨Hf3, L3⟩ => ⟨_, by omega, rfl, hlt, ρ3, Hf3, done ++ ys, zs, by rw [hr]; exact t2, by rw [List.append_assoc], L3⟩, fun u H3 hy => ?_⟩
        obtain ⟨rfl, du⟩ := yl u H3 hy
        exact lc_turn hg hv ht he hD B1.en (Nat.lt_of_lt_of_le hlt hz) L du t1 fun Hf3 H4 L3 => ⟨Hf3, L3⟩
  · cases e2
end
section
variable {X : Cx} {elt tg iter : Expr} {ifs : List Expr} {scope : Scope} {pos : Pos} {mi : MI} {mt : MT} {me : M} {x y : Str} {p : Pos}
/-- [elt for x in iter if ..] -/
theorem be_lcN (i : Nat) (own : List (Str × Nat)) (hc : X.calm = true) (hN : X.N.Nodup) (hi : BI X (.Name x p) iter mi) (ok : blkC X.N X.env.scope scope own = true) (hm : i ∈ own.map (·.2)) (hx : X.N[i]? = some x)
    (hg : ∀ (s : Shared) (H : Hp) (C : Addr) (cl : List (Str × Addr)) (fp : List Addr), PG (X.blk s H scope (compEnvC scope cl C X.env) fp) (.Name x p) (L2.gName i))
    (ht : ∀ (s : Shared) (H : Hp) (C : Addr) (cl : List (Str × Addr)) (fp : List Addr), BTs (X.blk s H scope (compEnvC scope cl C X.env) fp) ifs mt)
    (he : ∀ (s : Shared) (H : Hp) (C : Addr) (cl : List (Str × Addr)) (fp : List Addr), BE (X.blk s H scope (compEnvC scope cl C X.env) fp) elt me) (hs : ∀ x, foldedSetIterable iter X.env x = pure x := by intro _; rfl) :
    BE X (.ListComp elt [⟨.Name x p, iter, ifs, 0⟩] scope pos) (mLc mi (Py.gName i) (own.map (·.2)) mt me) := by
  obtain ⟨wi, h1, h2⟩ := hi
  exact ⟨_, pe_lc hc hN h1 (blkOk_by ok) hg (fun s H C cl fp => (ht s H C cl fp).can) (fun s H C cl fp => (he s H C cl fp).can) hs, se_lc _ h2 (sg_name i) (tgIn_name hm) st_rT se_rE⟩
theorem bs_setLcN (j : Nat) (i : Nat) (own : List (Str × Nat)) {py spos : Pos} (hc : X.calm = true) (hN : X.N.Nodup) (hj : X.N[j]? = some y) (hyl : X.env.scope.names.lookup y = some .local) (hi : BI X (.Name x p) iter mi) (ok : blkC X.N X.env.scope scope own = true) (hm : i ∈ own.map (·.2)) (hx : X.N[i]? = some x)
    (hsw : swapsWith (.ListComp elt [⟨.Name x p, iter, ifs, 0⟩] scope pos) (some (.Name y py)) spos.line X.env = pure true)
    (hg : ∀ (s : Shared) (H : Hp) (C : Addr) (cl : List (Str × Addr)) (fp : List Addr), PG (X.blk s H scope (compEnvC scope cl C X.env) fp) (.Name x p) (L2.gName i))
    (ht : ∀ (s : Shared) (H : Hp) (C : Addr) (cl : List (Str × Addr)) (fp : List Addr), BTs (X.blk s H scope (compEnvC scope cl C X.env) fp) ifs mt)
    (he : ∀ (s : Shared) (H : Hp) (C : Addr) (cl : List (Str × Addr)) (fp : List Addr), BE (X.blk s H scope (compEnvC scope cl C X.env) fp) elt me) (hs : ∀ x, foldedSetIterable iter X.env x = pure x := by intro _; rfl) :
    BS X (.Assign [.Name y py] (.ListComp elt [⟨.Name x p, iter, ifs, 0⟩] scope pos) spos) (sAsg (mLc mi (Py.gName i) (own.map (·.2)) mt me) (Py.gName j)) := by
  obtain ⟨wi, h1, h2⟩ := hi
  exact ⟨_, ps_setLc hc hN hj hyl hsw h1 (blkOk_by ok) hg (fun s H C cl fp => (ht s H C cl fp).can) (fun s H C cl fp => (he s H C cl fp).can) hs, ss_asg (se_lc _ h2 (sg_name i) (tgIn_name hm) st_rT se_rE) (sg_name j)⟩
end
end Py
/-! Py7: defs and their calls. -/
namespace Py
open PySem PySem.Spec PyProof.Rows L2

/-- the objects handed on, behind the call -/
def OutsOk (K : PySem.W.Frag) (Hf H : Hp) : List Sl → List V → List Ob → Prop
  | [], [], [] => True
  | .ref _ :: as, v :: vs, o :: os => (∃ p, v = .ref p ∧ Hf p = none ∧ RepOb K Hf H p o) ∧ OutsOk K Hf H as vs os
  | .val _ :: as, _ :: vs, os => OutsOk K Hf H as vs os
  | _, _, _ => False
def notOwn : Sl → Bool
  | .own _ => false
  | _ => true
/-- what a def of this meaning promises -/
def spOf (K : PySem.W.Frag) (n : Nat) (d : Den) : Sp := fun vs H Q _ => vs.length = n ∧ ∃ (Hf : Hp) (as : List Sl) (r : R) (os : List Ob), d as = some (r, os) ∧ as.all notOwn = true ∧ RepE K Hf H (as.map some) (vs.map some) ∧
  ∀ u Hf' H', Step (Own (as.map some) (vs.map some)) Hf H Hf' H' → RepR K Hf' H' H [] r u → OutsOk K Hf' H' as vs os → Q u H'
theorem get_map (as : List Sl) (i : Nat) : get (as.map some) i = as[i]? := by
  unfold get
  rw [List.getElem?_map]
  cases as[i]? <;> rfl
theorem slot_map (vs : List V) (i : Nat) : slot (vs.map some) i = vs[i]? := by
  unfold slot
  rw [List.getElem?_map]
  cases vs[i]? <;> rfl
section
variable {K : PySem.W.Frag} {Hf H Hf' H' Hf1 H1 Hf2 H2 H0 : Hp} {ρ ρ' ρ1 ρ2 : Env} {σ σ' σ1 σ2 : L2.St} {O O' O1 : Addr → Prop} {X : Cx}
theorem get_start (n : Nat) (as : List Sl) (i : Nat) : get (startE n as) i = as[i]? := by
  unfold startE get
  by_cases h : i < as.length
  · rw [List.getElem?_append_left (by simpa using h), List.getElem?_map]
    cases as[i]? <;> rfl
  · rw [List.getElem?_append_right (by simpa using h), List.getElem?_eq_none (l := as) (by omega)]
    by_cases h2 : i - (as.map some).length < n - as.length
    · rw [List.getElem?_replicate, if_pos h2]; rfl
    · rw [List.getElem?_replicate, if_neg h2]; rfl
theorem slot_start (N : List Str) (vs : List V) (i : Nat) : slot (L2.start N vs) i = vs[i]? := by
  unfold L2.start slot
  by_cases h : i < vs.length
  · rw [List.getElem?_append_left (by simpa using h), List.getElem?_map]
    cases vs[i]? <;> rfl
  · rw [List.getElem?_append_right (by simpa using h), List.getElem?_eq_none (l := vs) (by omega)]
    by_cases h2 : i - (vs.map some).length < N.length - vs.length
    · rw [List.getElem?_replicate, if_pos h2]; rfl
    · rw [List.getElem?_replicate, if_neg h2]; rfl
theorem start_len {as : List Sl} {vs : List V} (N : List Str) (h : as.length = vs.length) : (startE N.length as).length = (L2.start N vs).length := by
  unfold startE L2.start
  simp [h]
theorem rep_start {as : List Sl} {vs : List V} (N : List Str) (E : RepE K Hf H (as.map some) (vs.map some)) : RepE K Hf H (startE N.length as) (L2.start N vs) ∧ ∀ i p, OwnAt (startE N.length as) (L2.start N vs) i p ↔ OwnAt (as.map some) (vs.map some) i p := by
  have hl : as.length = vs.length := by simpa using E.len
  have eq : ∀ i p, OwnAt (startE N.length as) (L2.start N vs) i p ↔ OwnAt (as.map some) (vs.map some) i p := fun i p => by
    unfold OwnAt
    rw [get_start, slot_start, get_map, slot_map]
  refine ⟨⟨start_len N hl, E.ff, fun i s e => ?_, fun i j p a b => E.dis i j p ((eq i p).mp a) ((eq j p).mp b)⟩, eq⟩
  rw [get_start, ← get_map] at e
  rw [slot_start, ← slot_map]
  exact E.sl i s e
theorem outs_ok : ∀ (as : List Sl) (vs : List V) (os : List Ob) (ρ' : Env) (σ' : L2.St), as.all notOwn = true → as.length = vs.length → outs as ρ' = some os → (∀ i s, get ρ' i = some s → ∃ u, slot σ' i = some u ∧ RepSl K Hf' H' s u) →
    (∀ i o, as[i]? = some (.ref o) → slot σ' i = vs[i]?) → OutsOk K Hf' H' as vs os
  | [], [], os, ρ', σ', _, _, h, _, _ => by cases h; trivial
  | [], _ :: _, _, _, _, _, hl, _, _, _ => by cases hl
  | _ :: _, [], _, _, _, _, hl, _, _, _ => by cases hl
  | .own o :: as, v :: vs, os, ρ', σ', ho, _, _, _, _ => by simp [notOwn] at ho
  | .val x :: as, v :: vs, os, ρ', σ', ho, hl, h, E, hs => by
    cases ρ' with
    | nil => cases h
    | cons s ρ' =>
      have h' : outs as ρ' = some os := h
      have e1 : ∀ i, get ρ' i = get (s :: ρ') (i + 1) := fun i => rfl
      have e2 : ∀ i, slot σ'.tail i = slot σ' (i + 1) := fun i => by cases σ' <;> simp [slot]
      refine outs_ok as vs os ρ' σ'.tail (by simpa [notOwn] using ho) (by simpa using hl) h' (fun i t e => ?_) fun i o e => ?_
      · rw [e1] at e
        rw [e2]
        exact E _ t e
      · rw [e2, hs (i + 1) o e]; rfl
  | .ref x :: as, v :: vs, os, ρ', σ', ho, hl, h, E, hs => by
    cases ρ' with
    | nil => cases h
    | cons s ρ' =>
      cases s with
      | none => cases h
      | some s =>
        cases s with
        | val w => cases h
        | own w => cases h
        | lck w => cases h
        | ref w =>
          have h' : (outs as ρ').map (w :: ·) = some os := h
          rw [Option.map_eq_some_iff] at h'
          obtain ⟨os', h1, rfl⟩ := h'
          have e1 : ∀ i, get ρ' i = get (some (.ref w) :: ρ') (i + 1) := fun i => rfl
          have e2 : ∀ i, slot σ'.tail i = slot σ' (i + 1) := fun i => by cases σ' <;> simp [slot]
          refine ⟨?_, outs_ok as vs os' ρ' σ'.tail (by simpa [notOwn] using ho) (by simpa using hl) h1 (fun i t e => ?_) fun i o e => ?_⟩
          · obtain ⟨u, s1, r1⟩ := E 0 (.ref w) rfl
            rw [hs 0 x rfl] at s1
            cases s1
            exact r1
          · rw [e1] at e
            rw [e2]
            exact E _ t e
          · rw [e2, hs (i + 1) o e]; rfl
theorem leave_ok {r r' : R} {u : V} (E : RepE K Hf' H' ρ' σ') (R1 : RepR K Hf' H' H σ' r u) (hl : leave r ρ' = some r') (nw : ∀ i o p, get ρ' i = some (.own o) → slot σ' i = some (.ref p) → H p = none) : RepR K Hf' H' H [] r' u := by
  cases r with
  | val v => cases hl; exact R1
  | new o => cases hl; exact R1
  | bor i =>
    have R1' : slot σ' i = some u := R1
    cases g : get ρ' i with
    | none => simp only [leave, g] at hl; cases hl
    | some s =>
      simp only [leave, g] at hl
      obtain ⟨u', h1, h2⟩ := E.sl i s g
      rw [R1'] at h1
      cases h1
      cases s with
      | val v => cases hl; exact h2
      | own o => cases hl; obtain ⟨p, rfl, f, rp⟩ := h2; exact ⟨p, rfl, nw i o p g R1', f, rp⟩
      | ref o => cases hl
      | lck kvs => cases hl
/-- what a body has at hand -/
structure Cok (X : Cx) (k : Nat) : Prop where
  calm : X.calm = true
  nd : X.N.Nodup
  pass : PassesOwn (model X.prog X.w) X.A X.env X.xe
  div : DivOk X
  units : X.A.units + 64 < cLine
  unitsD : X.A.units + 65 < cLine
  room : Room k X.A
/-- THE RULE for a def: its body's meaning is its own -/
theorem ok_of {P : Program} {w : World} {mg : Str → Option Value} {base : Heap} {x qual : Str} {st : Stmt} {f : Addr} {fd : FuncData} {N ps : List Str} {k : Nat} {m : SM} (F : Fun K x qual st f fd) (S : FnScope N ps (defScope st)) (hk : 40 ≤ k) (hs : base.NoSeer) (ht : P.given.tree = none)
    (hb : ∀ (cdv : Value) (A : Around) (outer : List PySem.Env) (s : Shared) (H : Hp) (E : XK), Cok (cxOf CX0 P w K mg base N qual (defScope st) f cdv A outer s H E).nox k → BSs (cxOf CX0 P w K mg base N qual (defScope st) f cdv A outer s H E).nox (defBody st) m) :
    FnOk P w K mg base CX0 (k + 1) f fd ps (spOf K ps.length (mkDen N.length m)) := by
  refine F.ok S (fun vs H Q E h => h.1) fun cdv A outer s H vs Q E hr h => ?_
  have hd := hr.dp
  have hu := hr.un
  obtain ⟨t, h1, h2⟩ := hb cdv A outer s H E ⟨rfl, S.nd, PassesOwn.never, ⟨hs, ht, by show (A.deeper (envOfC qual (defScope st) s.heap.objs.size f cdv)).depth + 100 < recursionLimit; omega, _, outer, rfl, S.gen, S.co, rfl, rfl⟩, by show (A.deeper (envOfC qual (defScope st) s.heap.objs.size f cdv)).units + 64 < cLine; omega, by show (A.deeper (envOfC qual (defScope st) s.heap.objs.size f cdv)).units + 65 < cLine; omega, hr⟩
  refine ⟨t, h1, ?_⟩
  obtain ⟨_, Hf, as, r, os, hd, ho, E0, q⟩ := h
  obtain ⟨E1, eq⟩ := rep_start N E0
  have ow : ∀ p, Own (startE N.length as) (L2.start N vs) p → Own (as.map some) (vs.map some) p := fun p ⟨i, h⟩ => ⟨i, (eq i p).mp h⟩
  have hl : as.length = vs.length := by simpa using E0.len
  unfold mkDen at hd
  simp only [Option.bind_eq_some_iff] at hd
  obtain ⟨⟨fl, ρ'⟩, e1, e2⟩ := hd
  have K' : (cxOf CX0 P w K mg base N qual (defScope st) f cdv A outer s H E).nox.K = K := rfl
  refine h2 (startE N.length as) fl ρ' (L2.start N vs) Hf H e1 E1 _ fun σ' Hf' H' B => ?_
  have refs : ∀ i o, as[i]? = some (.ref o) → isRef (get ρ' i) = true ∧ slot σ' i = vs[i]? := fun i o e => by
    obtain ⟨a, b⟩ := B.ref i
    have g : get (startE N.length as) i = some (.ref o) := by rw [get_start]; exact e
    rw [g] at a b
    exact ⟨a, (b rfl).trans (slot_start N vs i)⟩
  have fin : ∀ os', outs as ρ' = some os' → OutsOk K Hf' H' as vs os' := fun os' h => outs_ok as vs os' ρ' σ' ho hl h B.en.sl fun i o e => (refs i o e).2
  have st' : Step (Own (as.map some) (vs.map some)) Hf H Hf' H' := B.st.weak fun p hp => .inl (ow p hp)
  have nw : ∀ i o p, get ρ' i = some (.own o) → slot σ' i = some (.ref p) → H p = none := fun i o p g sl => by
    have oi : OwnAt ρ' σ' i p := ⟨by rw [g]; rfl, sl⟩
    rcases B.own p ⟨i, oi⟩ with z | z
    · obtain ⟨k, a, b⟩ := ow p z
      rw [get_map] at a
      cases hk : as[k]? with
      | none => rw [hk] at a; cases a
      | some s0 =>
        cases s0 with
        | val v => rw [hk] at a; cases a
        | own o0 =>
          have := List.all_eq_true.mp ho _ (List.mem_of_getElem? hk)
          cases this
        | lck o0 => rw [hk] at a; cases a
        | ref o0 =>
          obtain ⟨r1, r2⟩ := refs k o0 hk
          have sk : slot σ' k = some (.ref p) := by rw [r2, ← slot_map]; exact b
          have nl : isLck (get ρ' k) = false := by
            cases gk : get ρ' k with
            | none => rfl
            | some s =>
              cases s with
              | lck kvs =>
                exfalso
                obtain ⟨u1, a1, p1, e1, ws, od, f1, _⟩ := B.en.sl k _ gk
                rw [sk] at a1
                cases a1
                cases e1
                obtain ⟨u2, a2, p2, e2, f2, _⟩ := B.en.sl i _ g
                rw [sl] at a2
                cases a2
                cases e2
                rw [f2] at f1
                cases f1
              | _ => rfl
          have ok : OwnAt ρ' σ' k p := ⟨isRef_isOb r1 nl, sk⟩
          have : i = k := B.en.dis i k p oi ok
          subst this
          rw [g] at r1
          cases r1
    · exact z
  cases fl with
  | nx =>
    simp only [Option.map_eq_some_iff, Prod.mk.injEq] at e2
    obtain ⟨os', h3, rfl, rfl⟩ := e2
    exact q .non Hf' H' st' .non (fin _ h3)
  | rt r0 =>
    simp only [Option.bind_eq_some_iff, Option.map_eq_some_iff, Prod.mk.injEq] at e2
    obtain ⟨r', h4, os', h3, rfl, rfl⟩ := e2
    intro u R1
    exact q u Hf' H' st' (leave_ok B.en R1 h4 nw) (fin _ h3)
  | bk => cases e2
  | ct => cases e2

/-! ### calls -/
/-- the arguments, as they stand -/
def AgOk (K : PySem.W.Frag) (Hf : Hp) (ρ : Env) (σ : L2.St) : List Ag → List Sl → List V → Prop
  | [], [], [] => True
  | .v _ :: as, .val v :: ss, u :: us => Dp K Hf u v ∧ AgOk K Hf ρ σ as ss us
  | .r i :: as, .ref o :: ss, u :: us => slot σ i = some u ∧ obAt ρ i = some o ∧ AgOk K Hf ρ σ as ss us
  | _, _, _ => False
def SA (K : PySem.W.Frag) (ta : TA) (as : List Ag) : Prop := ∀ (ρ : Env) (ss : List Sl) (ρ' : Env) (σ : L2.St) (Hf H : Hp), agsEval as ρ = some (ss, ρ') → RepE K Hf H ρ σ → ∀ Q : List V → Hp → Prop,
  (∀ us Hf' H', Bh K Hf H ρ σ Hf' H' ρ' → AgOk K Hf' ρ' σ as ss us → Q us H') → ta σ H Q
structure BA (X : Cx) (es : List Expr) (as : List Ag) : Prop where
  ex : ∃ ta, PA X es ta ∧ SA X.K ta as
theorem sa_nil : SA K tNil [] := by
  intro ρ ss ρ' σ Hf H hm E Q q
  cases hm
  exact q [] Hf H (.refl E) trivial
theorem sa_v {te : TE} {tr : TA} {a : M} {as : List Ag} (ha : SE K te a) (hr : SA K tr as) : SA K (tCons te tr) (.v a :: as) := by
  intro ρ ss ρ' σ Hf H hm E Q q
  simp only [agsEval, Option.bind_eq_some_iff, Option.map_eq_some_iff, Prod.mk.injEq] at hm
  obtain ⟨⟨x, ρ1⟩, e1, ⟨v, ρ2⟩, e2, ⟨ss', ρ3⟩, e3, rfl, rfl⟩ := hm
  refine ha ρ x ρ1 σ Hf H e1 E _ fun u Hf1 H1 S1 E1 R1 k1 => ?_
  obtain ⟨Hf2, B2, d⟩ := (⟨S1, E1, k1⟩ : Bh K Hf H ρ σ Hf1 H1 ρ1).frz E R1 e2
  refine hr ρ2 ss' ρ3 σ Hf2 H1 e3 B2.en _ fun us Hf3 H3 B3 A3 => ?_
  exact q (u :: us) Hf3 H3 (B2.trans B3) ⟨dp_mono B3.st.ff _ _ d, A3⟩
theorem sa_r {tr : TA} {i : Nat} {as : List Ag} (hr : SA K tr as) : SA K (tCons (tVar i) tr) (.r i :: as) := by
  intro ρ ss ρ' σ Hf H hm E Q q
  simp only [agsEval, Option.bind_eq_some_iff, Option.map_eq_some_iff, Prod.mk.injEq] at hm
  obtain ⟨o0, e0, ⟨ss', ρ3⟩, e3, o, e4, rfl, rfl⟩ := hm
  obtain ⟨p, _, s1, _⟩ := obAt_ok E e0
  refine ⟨_, slot_at s1, ?_⟩
  refine hr ρ ss' ρ3 σ Hf H e3 E _ fun us Hf3 H3 B3 A3 => ?_
  exact q (.ref p :: us) Hf3 H3 B3 ⟨s1, e4, A3⟩
theorem AgOk.len : ∀ {as : List Ag} {ss : List Sl} {us : List V}, AgOk K Hf ρ σ as ss us → ss.length = us.length ∧ ss.all notOwn = true
  | [], [], [], _ => ⟨rfl, rfl⟩
  | .v _ :: as, .val v :: ss, u :: us, h => by obtain ⟨a, b⟩ := AgOk.len h.2; exact ⟨by simp [a], by simp [b, notOwn]⟩
  | .r i :: as, .ref o :: ss, u :: us, h => by obtain ⟨a, b⟩ := AgOk.len h.2.2; exact ⟨by simp [a], by simp [b, notOwn]⟩
  | [], _ :: _, _, h => by cases h
  | [], [], _ :: _, h => by cases h
  | .v _ :: _, [], _, h => by cases h
  | .v _ :: _, .own _ :: _, _, h => by cases h
  | .v _ :: _, .ref _ :: _, _, h => by cases h
  | .v _ :: _, .val _ :: _, [], h => by cases h
  | .r _ :: _, [], _, h => by cases h
  | .r _ :: _, .own _ :: _, _, h => by cases h
  | .r _ :: _, .val _ :: _, _, h => by cases h
  | .r _ :: _, .ref _ :: _, [], h => by cases h
/-- the k-th argument -/
theorem AgOk.at : ∀ {as : List Ag} {ss : List Sl} {us : List V}, AgOk K Hf ρ σ as ss us → ∀ (k : Nat) s, ss[k]? = some s → ∃ u, us[k]? = some u ∧ ((∃ v, s = .val v ∧ Dp K Hf u v) ∨ ∃ i o, s = .ref o ∧ as[k]? = some (Ag.r i) ∧ slot σ i = some u ∧ obAt ρ i = some o)
  | [], [], [], _, k, s, e => by simp at e
  | .v _ :: as, .val v :: ss, u :: us, h, 0, s, e => by cases e; exact ⟨u, rfl, .inl ⟨v, rfl, h.1⟩⟩
  | .r i :: as, .ref o :: ss, u :: us, h, 0, s, e => by cases e; exact ⟨u, rfl, .inr ⟨i, o, rfl, rfl, h.1, h.2.1⟩⟩
  | .v _ :: as, .val v :: ss, u :: us, h, k + 1, s, e => by
    obtain ⟨u', a, b⟩ := AgOk.at h.2 k s e
    exact ⟨u', a, b⟩
  | .r i :: as, .ref o :: ss, u :: us, h, k + 1, s, e => by
    obtain ⟨u', a, b⟩ := AgOk.at h.2.2 k s e
    exact ⟨u', a, b⟩
  | [], _ :: _, _, h, _, _, _ => by cases h
  | [], [], _ :: _, h, _, _, _ => by cases h
  | .v _ :: _, [], _, h, _, _, _ => by cases h
  | .v _ :: _, .own _ :: _, _, h, _, _, _ => by cases h
  | .v _ :: _, .ref _ :: _, _, h, _, _, _ => by cases h
  | .v _ :: _, .val _ :: _, [], h, _, _, _ => by cases h
  | .r _ :: _, [], _, h, _, _, _ => by cases h
  | .r _ :: _, .own _ :: _, _, h, _, _, _ => by cases h
  | .r _ :: _, .val _ :: _, _, h, _, _, _ => by cases h
  | .r _ :: _, .ref _ :: _, [], h, _, _, _ => by cases h
theorem refsOf_inj : ∀ {as : List Ag} {j k i : Nat}, (refsOf as).Nodup → as[j]? = some (Ag.r i) → as[k]? = some (Ag.r i) → j = k
  | [], _, _, _, _, h, _ => by simp at h
  | .v _ :: as, 0, _, _, _, h, _ => by simp at h
  | .v _ :: as, _ + 1, 0, _, _, _, h => by simp at h
  | .v _ :: as, j + 1, k + 1, i, n, h1, h2 => congrArg (· + 1) (refsOf_inj (as := as) (i := i) n (by simpa using h1) (by simpa using h2))
  | .r l :: as, 0, 0, i, n, h1, h2 => rfl
  | .r l :: as, 0, k + 1, i, n, h1, h2 => by
    have n' : l ∉ refsOf as ∧ (refsOf as).Nodup := List.nodup_cons.mp n
    have e : l = i := by simpa using h1
    have m : ∀ (as : List Ag) (k : Nat), as[k]? = some (Ag.r i) → i ∈ refsOf as := fun as => by
      induction as with
      | nil => intro k h; simp at h
      | cons a as ih =>
        intro k h
        cases k with
        | zero => cases a with
          | v m => simp at h
          | r l => have : l = i := by simpa using h
                   subst this; exact List.mem_cons_self
        | succ k => cases a with
          | v m => exact ih k (by simpa using h)
          | r l => exact List.mem_cons_of_mem _ (ih k (by simpa using h))
    exact absurd (m as k (by simpa using h2)) (e ▸ n'.1)
  | .r l :: as, j + 1, 0, i, n, h1, h2 => (refsOf_inj (as := .r l :: as) (j := 0) (k := j + 1) n h2 h1).symm
  | .r l :: as, j + 1, k + 1, i, n, h1, h2 => congrArg (· + 1) (refsOf_inj (as := as) (i := i) (List.nodup_cons.mp n).2 (by simpa using h1) (by simpa using h2))
  termination_by as j k => (as.length, j)
  decreasing_by all_goals simp_wf; all_goals omega
/-- the callee's view -/
theorem args_rep {as : List Ag} {ss : List Sl} {us : List V} (E : RepE K Hf H ρ σ) (h : AgOk K Hf ρ σ as ss us) (nd : (refsOf as).Nodup) : RepE K Hf H (ss.map some) (us.map some) ∧ ∀ p, Own (ss.map some) (us.map some) p → ∃ i k : Nat, as[k]? = some (Ag.r i) ∧ OwnAt ρ σ i p ∧ us[k]? = some (V.ref p) := by
  have at_ : ∀ k p, OwnAt (ss.map some) (us.map some) k p → ∃ i, as[k]? = some (Ag.r i) ∧ OwnAt ρ σ i p ∧ us[k]? = some (V.ref p) := fun k p ⟨a, b⟩ => by
    rw [get_map] at a
    rw [slot_map] at b
    cases hs : ss[k]? with
    | none => rw [hs] at a; cases a
    | some s =>
      obtain ⟨u, e1, e2⟩ := h.at k s hs
      rw [b] at e1
      cases e1
      rcases e2 with ⟨v, rfl, _⟩ | ⟨i, o, rfl, e3, e4, e5⟩
      · rw [hs] at a; cases a
      · obtain ⟨p', oi, s1, _⟩ := obAt_ok E e5
        rw [e4] at s1
        cases s1
        exact ⟨i, e3, oi, b⟩
  refine ⟨⟨by simpa using h.len.1, E.ff, fun k s e => ?_, fun j k p a b => ?_⟩, fun p ⟨k, a⟩ => ?_⟩
  · rw [get_map] at e
    rw [slot_map]
    obtain ⟨u, e1, e2⟩ := h.at k s e
    refine ⟨u, e1, ?_⟩
    rcases e2 with ⟨v, rfl, d⟩ | ⟨i, o, rfl, e3, e4, e5⟩
    · exact d
    · obtain ⟨p, oi, s1, f, r, _⟩ := obAt_ok E e5
      rw [e4] at s1
      cases s1
      exact ⟨p, rfl, f, r⟩
  · obtain ⟨i, h1, h2, _⟩ := at_ j p a
    obtain ⟨i', h3, h4, _⟩ := at_ k p b
    have : i = i' := E.dis i i' p h2 h4
    subst this
    exact refsOf_inj nd h1 h3
  · obtain ⟨i, h1, h2, h3⟩ := at_ k p a
    exact ⟨i, k, h1, h2, h3⟩
/-- what the objects are behind the call, by the names -/
theorem outs_by : ∀ {as : List Ag} {ss : List Sl} {us : List V} {os : List Ob}, AgOk K Hf ρ σ as ss us → OutsOk K Hf' H' ss us os → (refsOf as).length = os.length ∧ ∀ j o, (j, o) ∈ (refsOf as).zip os → ∃ p, slot σ j = some (.ref p) ∧ Hf' p = none ∧ RepOb K Hf' H' p o
  | [], [], [], [], _, _ => ⟨rfl, fun j o h => by simp [refsOf] at h⟩
  | .v _ :: as, .val v :: ss, u :: us, os, h, k => outs_by (as := as) h.2 k
  | .r i :: as, .ref o :: ss, u :: us, o' :: os, h, k => by
    obtain ⟨l, m⟩ := outs_by (as := as) h.2.2 k.2
    refine ⟨by simp [refsOf, l], fun j o2 hj => ?_⟩
    have hj' : (j, o2) ∈ (i, o') :: (refsOf as).zip os := hj
    rcases List.mem_cons.mp hj' with e | e
    · cases e
      obtain ⟨p, e1, f, r⟩ := k.1
      exact ⟨p, by rw [h.1, e1], f, r⟩
    · exact m j o2 e
  | [], _ :: _, _, _, h, _ => by cases h
  | [], [], _ :: _, _, h, _ => by cases h
  | [], [], [], _ :: _, _, k => by cases k
  | .v _ :: _, [], _, _, h, _ => by cases h
  | .v _ :: _, .own _ :: _, _, _, h, _ => by cases h
  | .v _ :: _, .ref _ :: _, _, _, h, _ => by cases h
  | .v _ :: _, .val _ :: _, [], _, h, _ => by cases h
  | .r _ :: _, [], _, _, h, _ => by cases h
  | .r _ :: _, .own _ :: _, _, _, h, _ => by cases h
  | .r _ :: _, .val _ :: _, _, _, h, _ => by cases h
  | .r _ :: _, .ref _ :: _, [], _, h, _ => by cases h
  | .r _ :: _, .ref _ :: _, _ :: _, [], _, k => by cases k
theorem setOb_len (i : Nat) (o : Ob) : (setOb ρ i o).length = ρ.length := by
  unfold setOb
  split <;> rw [List.length_set]
theorem setObs_get : ∀ (is : List Nat) (os : List Ob) (ρ : Env), is.Nodup → is.length = os.length → (∀ i ∈ is, i < ρ.length) → (setObs is os ρ).length = ρ.length ∧ (∀ j, j ∉ is → get (setObs is os ρ) j = get ρ j) ∧
    ∀ j o, (j, o) ∈ is.zip os → get (setObs is os ρ) j = if isRef (get ρ j) then some (.ref o) else some (.own o)
  | [], [], ρ, _, _, _ => ⟨rfl, fun _ _ => rfl, fun j o h => by simp at h⟩
  | [], _ :: _, _, _, h, _ => by cases h
  | _ :: _, [], _, _, h, _ => by cases h
  | i :: is, o :: os, ρ, nd, hl, hb => by
    obtain ⟨n1, n2⟩ := List.nodup_cons.mp nd
    have hi : i < ρ.length := hb i List.mem_cons_self
    obtain ⟨a, b, c⟩ := setObs_get is os (setOb ρ i o) n2 (by simpa using hl) fun k hk => by rw [setOb_len]; exact hb k (List.mem_cons_of_mem _ hk)
    refine ⟨a.trans (setOb_len i o), fun j hj => ?_, fun j o' h => ?_⟩
    · have h1 : j ∉ is := fun z => hj (List.mem_cons_of_mem _ z)
      have h2 : i ≠ j := fun z => hj (z ▸ List.mem_cons_self)
      show get (setObs is os (setOb ρ i o)) j = _
      rw [b j h1, get_setOb i j o hi, if_neg h2]
    · show get (setObs is os (setOb ρ i o)) j = _
      have h' : (j, o') ∈ (i, o) :: is.zip os := h
      rcases List.mem_cons.mp h' with e | e
      · cases e
        rw [b i n1, get_setOb i i o hi, if_pos rfl]
      · rw [c j o' e]
        have hij : i ≠ j := fun z => n1 (z ▸ (List.of_mem_zip e).1)
        rw [get_setOb i j o hi, if_neg hij]
theorem zip_mem : ∀ {is : List Nat} {os : List Ob} {j : Nat}, is.length = os.length → j ∈ is → ∃ o, (j, o) ∈ is.zip os
  | [], _, _, _, h => by cases h
  | _ :: _, [], _, h, _ => by cases h
  | i :: is, o :: os, j, hl, h => by
    rcases List.mem_cons.mp h with e | e
    · exact ⟨o, by rw [e]; exact List.mem_cons_self⟩
    · obtain ⟨o', h'⟩ := zip_mem (is := is) (os := os) (by simpa using hl) e
      exact ⟨o', List.mem_cons_of_mem _ h'⟩
theorem refs_mem : ∀ {as : List Ag} {i k : Nat}, as[k]? = some (Ag.r i) → i ∈ refsOf as
  | [], _, _, h => by simp at h
  | .v _ :: as, i, 0, h => by simp at h
  | .v _ :: as, i, k + 1, h => refs_mem (as := as) (k := k) (by simpa using h)
  | .r l :: as, i, 0, h => by have e : l = i := by simpa using h
                              exact e ▸ List.mem_cons_self
  | .r l :: as, i, k + 1, h => List.mem_cons_of_mem _ (refs_mem (as := as) (k := k) (by simpa using h))
theorem agOk_refs : ∀ {as : List Ag} {ss : List Sl} {us : List V}, AgOk K Hf ρ σ as ss us → ∀ i ∈ refsOf as, ∃ o, obAt ρ i = some o
  | [], [], [], _, i, h => by cases h
  | .v _ :: as, .val v :: ss, u :: us, h, i, hi => agOk_refs (as := as) h.2 i hi
  | .r l :: as, .ref o :: ss, u :: us, h, i, hi => by
    have hi' : i ∈ l :: refsOf as := hi
    rcases List.mem_cons.mp hi' with e | e
    · exact ⟨o, e ▸ h.2.1⟩
    · exact agOk_refs (as := as) h.2.2 i e
  | [], _ :: _, _, h, _, _ => by cases h
  | [], [], _ :: _, h, _, _ => by cases h
  | .v _ :: _, [], _, h, _, _ => by cases h
  | .v _ :: _, .own _ :: _, _, h, _, _ => by cases h
  | .v _ :: _, .ref _ :: _, _, h, _, _ => by cases h
  | .v _ :: _, .val _ :: _, [], h, _, _ => by cases h
  | .r _ :: _, [], _, h, _, _ => by cases h
  | .r _ :: _, .own _ :: _, _, h, _, _ => by cases h
  | .r _ :: _, .val _ :: _, _, h, _, _ => by cases h
  | .r _ :: _, .ref _ :: _, [], h, _, _ => by cases h
theorem se_call {ta : TA} {as : List Ag} {d : Den} {n : Nat} {E : XK} (hn : as.length = n) (ha : SA K ta as) : SE K (tCall (spOf K n d) [] E ta) (mCall d as) := by
  intro ρ r ρ' σ Hf H hm E0 Q q
  simp only [mCall, Option.bind_eq_some_iff] at hm
  obtain ⟨⟨ss, ρ1⟩, e1, e2⟩ := hm
  split at e2
  · rename_i nd
    simp only [Option.map_eq_some_iff, Prod.mk.injEq] at e2
    obtain ⟨⟨r', os⟩, e3, rfl, rfl⟩ := e2
    refine ha ρ ss ρ1 σ Hf H e1 E0 _ fun us Hf1 H1 B1 A1 => ?_
    have hle : ∀ {as : List Ag} {ss : List Sl} {us : List V}, AgOk K Hf1 ρ1 σ as ss us → us.length = as.length := by
      intro as
      induction as with
      | nil => intro ss us h; cases ss <;> cases us <;> first | rfl | cases h
      | cons a as ih =>
        intro ss us h
        cases ss with
        | nil => cases a <;> cases h
        | cons s ss =>
          cases us with
          | nil => cases a <;> cases s <;> cases h
          | cons u us =>
            cases a <;> cases s <;> first
              | exact congrArg (· + 1) (ih h.2)
              | exact congrArg (· + 1) (ih h.2.2)
              | cases h
    obtain ⟨E2, ow⟩ := args_rep B1.en A1 nd
    rw [List.append_nil]
    refine ⟨(hle A1).trans hn, Hf1, ss, r', os, e3, A1.len.2, E2, fun u Hf2 H2 S2 R2 O2 => ?_⟩
    obtain ⟨ol, ob⟩ := outs_by A1 O2
    have lt : ∀ i ∈ refsOf as, i < ρ1.length := fun i hi => by
      obtain ⟨o, h⟩ := agOk_refs A1 i hi
      obtain ⟨_, _, _, _, _, h⟩ := obAt_ok B1.en h
      exact h
    obtain ⟨l1, g1, g2⟩ := setObs_get (refsOf as) os ρ1 nd ol lt
    have isob : ∀ j, isOb (get (setObs (refsOf as) os ρ1) j) = true → isOb (get ρ1 j) = true := fun j h => by
      by_cases hj : j ∈ refsOf as
      · obtain ⟨o, ho⟩ := agOk_refs A1 j hj
        obtain ⟨_, oi, _⟩ := obAt_ok B1.en ho
        exact oi.1
      · rw [g1 j hj] at h; exact h
    have st : Step (Own ρ1 σ) Hf1 H1 Hf2 H2 := S2.weak fun p hp => by
      obtain ⟨i, k, _, h, _⟩ := ow p hp
      exact .inl ⟨i, h⟩
    have B2 : Bh K Hf1 H1 ρ1 σ Hf2 H2 (setObs (refsOf as) os ρ1) := by
      refine ⟨st, ⟨l1.trans B1.en.len, S2.fh, fun j s e => ?_, fun j k p a b => B1.en.dis j k p ⟨isob j a.1, a.2⟩ ⟨isob k b.1, b.2⟩⟩, ⟨isob, fun j => ?_⟩⟩
      · by_cases hj : j ∈ refsOf as
        · obtain ⟨o, hz⟩ := zip_mem ol hj
          obtain ⟨p, s1, f1, r1⟩ := ob j o hz
          rw [g2 j o hz] at e
          refine ⟨_, s1, ?_⟩
          split at e
          · cases e; exact ⟨p, rfl, f1, r1⟩
          · cases e; exact ⟨p, rfl, f1, r1⟩
        · rw [g1 j hj] at e
          obtain ⟨u', h1, h2⟩ := B1.en.sl j s e
          refine ⟨u', h1, h2.step S2 fun p ho hu hp => ?_⟩
          obtain ⟨i, k, hk, oi, _⟩ := ow p hp
          have : j = i := B1.en.dis j i p ⟨by rw [e]; exact ho, by rw [h1, hu]⟩ oi
          exact hj (this ▸ refs_mem hk)
      · by_cases hj : j ∈ refsOf as
        · obtain ⟨o, hz⟩ := zip_mem ol hj
          rw [g2 j o hz]
          cases hr : isRef (get ρ1 j) <;> simp [isRef]
        · rw [g1 j hj]
    have B := B1.trans B2
    exact q u Hf2 H2 B.st B.en (R2.any.back fun p hp => B1.fresh hp) B.kp
  · cases e2
end
section
variable {X : Cx} {e a : Expr} {es : List Expr} {m : M} {as : List Ag} {x y : Str} {p pos : Pos} {k n : Nat} {f : Addr} {fd : FuncData} {ps : List Str} {d : Den}
theorem ba_nil : BA X [] [] := ⟨_, pa_nil, sa_nil⟩
theorem ba_v (ha : BE X a m) (hr : BA X es as) (hs : starEach (a :: es) X.env = (false, eval a X.env) :: starEach es X.env := by rfl) : BA X (a :: es) (.v m :: as) := let ⟨t, h1, h2⟩ := ha; let ⟨u, h3, h4⟩ := hr; ⟨_, pa_cons h1 h3 hs, sa_v h2 h4⟩
theorem ba_r (i : Nat) (ho : PE X (.Name x p) (tVar i)) (hr : BA X es as) (hs : starEach (.Name x p :: es) X.env = (false, eval (.Name x p) X.env) :: starEach es X.env := by rfl) : BA X (.Name x p :: es) (.r i :: as) := let ⟨u, h3, h4⟩ := hr; ⟨_, pa_cons ho h3 hs, sa_r h4⟩
/-- f(e, ..) -/
theorem be_call (F : FnOk X.prog X.w X.K X.mg X.base CX0 k f fd ps (spOf X.K n d)) (hr : Room k X.A) (hg : Gl X x) (hm : X.mg x = some (.ref f)) (hk : PySem.W.keepIn X.K (.ref f) = true) (hb : Binds X.K fd ps []) (ha : BA X (e :: es) as) (hn : as.length = n := by rfl)
    (hdb : (x == ("__debug__" : Str)) = false := by decide) (he : starEach (e :: es) X.env = (false, eval e X.env) :: starEach es X.env := by rfl) (hpl : (backTo pos (starEach es X.env)).any (·.1) = false := by rfl) : BE X (.Call (.Name x p) (e :: es) [] pos) (mCall d as) := by
  obtain ⟨t, h1, h2⟩ := ha
  exact ⟨_, pe_call F hr hg hm hk hb .nil (pass0 (X := X)) h1 hdb he hpl, se_call hn h2⟩
end
/-- a def that is never come to -/
theorem ok_none {P : Program} {w : World} {K : PySem.W.Frag} {mg : Str → Option Value} {base : Heap} {k n : Nat} {f : Addr} {fd : FuncData} {ps : List Str} (hp : ps.length = n) : FnOk P w K mg base CX0 k f fd ps (spOf K n fun _ => none) :=
  ⟨fun vs H Q E h => h.1.trans hp.symm, fun A outer s H args us vs Q E hr he hb hv ⟨_, Hf, as, r, os, hd, _⟩ => nomatch hd⟩
end Py
/-! Py8: the law's end. -/
namespace Py
open PySem PySem.Spec PyProof.Rows L2

/-- the script alone is tracked: the law's def, called -/
theorem law_core {P : Program} {w : World} {K : PySem.W.Frag} {mg mb : Str → Option Value} {k : Nat} {fa a : Addr} {fd : FuncData} {x : Str} {d : Den} {s₁ : Shared} {vs : List Value} {ns : List Int}
    (KX : K.In s₁.heap) (n1 : s₁.heap.Ns mainGlobals mg) (n2 : s₁.heap.Ns builtinsNs mb) (n3 : ∀ x : Str, x ≠ "__name__" → mb x = bootBuiltins x) (n4 : s₁.heap.NoLimit) (n5 : s₁.heap.NoSeer) (n6 : s₁.gens = #[])
    (ob : s₁.heap.get? a = some { cls := .type "list", data := .seq vs.toArray }) (hr : Room k callerA)
    (F : ∀ base : Heap, K.In base → base.Ns mainGlobals mg → base.NoSeer → FnOk P w K mg base CX0 k fa fd [x] (spOf K 1 d)) (bi : ∀ (s : Shared) (u : Value), BindsTo s fd ⟨[u], []⟩ [(x, u)])
    (pure : ∃ os, d [.val (.list (ns.map PyData.int))] = some (.val (.bool true), os)) (H : Hp) (hS : SqL K H a (ns.map V.int)) (hok : HOk P w H s₁.heap) (only : ∀ b u, H b = some u → b = a ∧ K.lookup a = none ∧ ∃ o xs, u = .frz o (.lst xs)) :
    codeAny (model P w) callerA (.call (.ref fa) ⟨[.ref a], []⟩) (fun r s' => r = .ok (.ret (.bool true)) ∧ OldK s₁.heap s'.heap ∧ s'.os = s₁.os ∧ AllBare s'.gens) s₁ := by
  have free : ∀ b, b ≠ a → H b = none := fun b h => by
    cases q : H b with
    | none => rfl
    | some u => exact absurd (only b u q).1 h
  have base_get : ∀ b o, b ≠ a → s₁.heap.get? b = some o → (hidT s₁.heap H).get? b = some o := fun b o h e => hidT_get e (free b h)
  have ns_get : ∀ b m, s₁.heap.Ns b m → (hidT s₁.heap H).Ns b m := by
    rintro b m ⟨o, es, ep, e, dd, r⟩
    refine ⟨o, es, ep, base_get b o (fun z => ?_) e, dd, r⟩
    rw [z, ob] at e
    cases e
    cases dd
  have kin : K.In (hidT s₁.heap H) := fun b o e => by
    by_cases h : b = a
    · subst h
      refine hidT_get (KX b o e) ?_
      cases q : H b with
      | none => rfl
      | some u => have := (only b u q).2.1; rw [e] at this; cases this
    · exact base_get b o h (KX b o e)
  have seer : (hidT s₁.heap H).NoSeer := by
    obtain ⟨⟨mc, c1, c2⟩, ⟨mm, m1, m2⟩, ⟨mb', b1, b2⟩, ⟨mg', bm, obm, g1, g2, g3, g4, g5⟩⟩ := n5
    refine ⟨⟨mc, ns_get _ _ c1, c2⟩, ⟨mm, ns_get _ _ m1, m2⟩, ⟨mb', ns_get _ _ b1, b2⟩, ⟨mg', bm, obm, ns_get _ _ g1, g2, base_get bm obm (fun z => ?_) g3, g4, g5⟩⟩
    rw [z, ob] at g3
    cases g3
    exact absurd (show Value.type "list" = Value.type "module" from g4) (by decide)
  have mod : Mod K mg (hidT s₁.heap H) := ⟨kin, ns_get _ _ n1, ⟨mb, ns_get _ _ n2, n3⟩, let ⟨mc, h1, h2⟩ := n4; ⟨mc, ns_get _ _ h1, h2⟩⟩
  have env : Env0 P w K mg (hidT s₁.heap H) callerA [] s₁ H := ⟨rfl, mod, fun b o e => of_hidT e, Nat.le_of_eq (hidT_size _ _), trivial, fun b hb => absurd hb List.not_mem_nil, hok, .of_eq n6⟩
  obtain ⟨os, hd⟩ := pure
  have args : RepE K H H ([Sl.val (.list (ns.map PyData.int))].map some) ([V.ref a].map some) := by
    refine ⟨rfl, fun _ _ h => h, fun i s e => ?_, fun i j p ha => ?_⟩
    · rw [get_map] at e
      rw [slot_map]
      cases i with
      | zero => cases e; exact ⟨_, rfl, .lst hS (dps_ints ns)⟩
      | succ i => cases e
    · have h1 := ha.1
      rw [get_map] at h1
      cases i with
      | zero => cases h1
      | succ i => cases h1
  have prom : spOf K 1 d [.ref a] H (fun v _ => v = .bl true) fun _ _ _ => False := ⟨rfl, H, _, _, os, hd, rfl, args, fun u Hf' H' _ R _ => by cases (show Dp K Hf' u (.bool true) from R); rfl⟩
  refine codeAny_mono ((F _ kin (ns_get _ _ n1) seer).run callerA [] s₁ H ⟨[.ref a], []⟩ [.ref a] [.ref a] _ _ hr env (bi s₁ (.ref a)) (.cons rfl .nil) prom) fun r s' h => ?_
  cases r with
  | error e => exact False.elim h
  | ok fl =>
    cases fl with
    | next => exact False.elim h
    | brk => exact False.elim h
    | cont => exact False.elim h
    | ret u =>
      obtain ⟨v, H', os', bare, un, hok', rv, q⟩ := h
      have q' : v = .bl true := q
      subst q'
      obtain rfl : u = Value.bool true := rv
      refine ⟨rfl, OldK.of_keep fun b o e => ?_, os', bare⟩
      cases z : H b with
      | none => exact un.keep b o e z (List.not_mem_nil) List.not_mem_nil
      | some u =>
        obtain ⟨_, _, o2, xs, rfl⟩ := only b u z
        have z1 := (hok b _ z).1
        have z2 := (hok' b _ (un.frzs b o2 _ z)).1
        rw [e] at z1
        cases z1
        exact z2
theorem law_py {P : Program} {w : World} {K : PySem.W.Frag} {mg mb : Str → Option Value} {k : Nat} {fa a : Addr} {fd : FuncData} {x : Str} {d : Den} {s₁ : Shared} {vs : List Value} {ns : List Int}
    (KX : K.In s₁.heap) (n1 : s₁.heap.Ns mainGlobals mg) (n2 : s₁.heap.Ns builtinsNs mb) (n3 : ∀ x : Str, x ≠ "__name__" → mb x = bootBuiltins x) (n4 : s₁.heap.NoLimit) (n5 : s₁.heap.NoSeer) (n6 : s₁.gens = #[])
    (ob : s₁.heap.get? a = some { cls := .type "list", data := .seq vs.toArray }) (hi : IntsAre vs ns) (hl : ns.length ≤ sizeLine) (hr : Room k callerA)
    (F : ∀ base : Heap, K.In base → base.Ns mainGlobals mg → base.NoSeer → FnOk P w K mg base CX0 k fa fd [x] (spOf K 1 d)) (bi : ∀ (s : Shared) (u : Value), BindsTo s fd ⟨[u], []⟩ [(x, u)])
    (pure : ∃ os, d [.val (.list (ns.map PyData.int))] = some (.val (.bool true), os)) :
    codeAny (model P w) callerA (.call (.ref fa) ⟨[.ref a], []⟩) (fun r s' => r = .ok (.ret (.bool true)) ∧ OldK s₁.heap s'.heap ∧ s'.os = s₁.os ∧ AllBare s'.gens) s₁ := by
  have rv := vals_ints hi
  have hlen : (ns.map V.int).length ≤ sizeLine := by rw [List.length_map]; exact hl
  cases hk : K.lookup a with
  | some o =>
    have e := KX a o hk
    rw [ob] at e
    cases e
    refine law_core KX n1 n2 n3 n4 n5 n6 ob hr F bi pure (fun _ => none) (.inr ⟨_, vs.toArray, _, hk, rfl, rfl, rfl, ?_, by simpa using rv⟩) (fun b u z => nomatch z) fun b u z => nomatch z
    have := rv.length
    rw [List.size_toArray, ← this]
    exact hlen
  | none =>
    refine law_core KX n1 n2 n3 n4 n5 n6 ob hr F bi pure (fun b => if b = a then some (.frz { cls := .type "list", data := .seq vs.toArray } (.lst (ns.map V.int))) else none) (.inl (.inr ⟨_, if_pos rfl⟩)) (fun b u z => ?_) fun b u z => ?_
    · by_cases hb : b = a
      · subst hb
        have z' := (if_pos rfl).symm.trans z
        cases z'
        exact ⟨ob, hlen, vs, _, rv, ob⟩
      · have z' := (if_neg hb).symm.trans z
        cases z'
    · by_cases hb : b = a
      · have z' := (if_pos hb).symm.trans z
        cases z'
        exact ⟨hb, hk, _, _, rfl⟩
      · have z' := (if_neg hb).symm.trans z
        cases z'
/-- the goal that k_head leaves, from the law's def -/
theorem walk_py {l : PySem.W.OpenLaw} {n k : Nat} {q : Program} {loose : List Str} {XP : (Str → Option Value) → Heap → Prop} {YP : World → Heap → Prop} {dr : DefRec} {K : Params → PySem.W.Frag} {x : Str} {d : Den}
    (hn : l.most = some n) (hn2 : n ≤ sizeLine) (hdf : dr.params.defaults = []) (hr : Room k callerA) (hq : importsNone q = true)
    (hY : ∀ (w : World) (h : Heap), YP w h → (K w.params).In h)
    (F : ∀ (w : World) (mg : Str → Option Value) (fa : Addr) (h : Heap), (K w.params).In h → h.Ns mainGlobals mg → mg dr.name = some (.ref fa) →
      ∃ fd : FuncData, (∀ (s : Shared) (u : Value), BindsTo s fd ⟨[u], []⟩ [(x, u)]) ∧
        ∀ base : Heap, (K w.params).In base → base.Ns mainGlobals mg → base.NoSeer → FnOk l.prog w (K w.params) mg base CX0 k fa fd [x] (spOf (K w.params) 1 d))
    (pure : ∀ ns : List Int, ns.length ≤ n → (∀ z ∈ ns, Builtin.Int.intBits z ≤ 1048576) → ∃ os, d [.val (.list (ns.map PyData.int))] = some (.val (.bool true), os)) :
    PySem.W.WalkO q loose XP YP l.row.toRowW dr [] (fun f vs => PySem.call f vs) := by
  refine Att.attach_callB hn hdf fun w s₀ s₁ mg mb fa o pm cd doc a vs ns G Y ho hd hcd hmg hobj hints hlen hbits hg => ?_
  have KX := hY w _ Y
  obtain ⟨fd, hb, hF⟩ := F w mg fa _ KX G.T.g hmg
  exact law_py KX G.T.g G.T.b G.T.builtins G.T.nolimit (G.T.seer hq) hg hobj hints (Nat.le_trans hlen hn2) hr hF hb (pure ns hlen hbits)
end Py
/-! Py9: words for the walk. -/
namespace Py
open PySem PySem.Spec PyProof.Rows L2
/-- a def of the text, as it stands behind the top -/
structure Df (K : PySem.W.Frag) (mg : Str → Option Value) (x : Str) (st : Stmt) where
  f : Addr
  fd : FuncData
  F : Fun K x x st f fd
  g : mg x = some (.ref f)
/-- a constant tuple -/
structure CT (K : PySem.W.Frag) (mg : Str → Option Value) (x : Str) (vs : List PV) where
  a : Addr
  m : mg x = some (.ref a)
  d : ∀ H : Hp, Dp K H (.ref a) (.tuple vs)
def ct_mk {K : PySem.W.Frag} {h : Heap} {mg : Str → Option Value} {x : Str} {i j : Int} {a : Addr} {t u : Tok} {od : Option Addr} {n : Nat} {sl : Array (Option Value)} (X : K.In h) (G : h.Ns mainGlobals mg) (q1 : PySem.W.nsIn K mainGlobals x = some (some (.ref a)))
    (q2 : K.lookup a = some ⟨.type "tuple", od, .seq #[.int i t, .int j u] n, sl⟩) : CT K mg x [.int i, .int j] :=
  ⟨a, PySem.W.mg_of X G q1, fun H => .tup (.inr ⟨_, _, _, q2, rfl, rfl, (by show 2 ≤ sizeLine; rw [sizeLine_eq]; decide), .cons (show RelV (.int i) _ from ⟨t, rfl⟩) (.cons (show RelV (.int j) _ from ⟨u, rfl⟩) .nil)⟩) (.cons (.int i) (.cons (.int j) .nil))⟩
theorem bt_len : bootBuiltins "len" = some (.builtin "len") := by decide +kernel
theorem bt_min : bootBuiltins "min" = some (.builtin "min") := by decide +kernel
theorem bt_any : bootBuiltins "any" = some (.builtin "any") := by decide +kernel
theorem bt_sorted : bootBuiltins "sorted" = some (.builtin "sorted") := by decide +kernel
theorem bt_isinstance : bootBuiltins "isinstance" = some (.builtin "isinstance") := by decide +kernel
theorem bt_int : bootBuiltins "int" = some (.type "int") := by decide +kernel
theorem bt_bool : bootBuiltins "bool" = some (.type "bool") := by decide +kernel
theorem bt_str : bootBuiltins "str" = some (.type "str") := by decide +kernel
theorem bt_tuple : bootBuiltins "tuple" = some (.type "tuple") := by decide +kernel
theorem bt_list : bootBuiltins "list" = some (.type "list") := by decide +kernel
theorem blk_at {N : List Str} {sc scope : Scope} {own : List (Str × Nat)} {X : Cx} (h1 : X.N = N) (h2 : X.env.scope = sc) (h : blkC N sc scope own = true) : blkC X.N X.env.scope scope own = true := by rw [h1, h2]; exact h
/-- the scope of a comprehension within another one -/
def relS (scope sc : Scope) : Scope := { scope with names := scope.names.map fun (n, k) => if (k == .free && sc.kind == .function && sc.names.lookup n == some .cell) then (n, .cell) else (n, k) }
theorem blk_in {N : List Str} {sc0 scope0 scope : Scope} {own : List (Str × Nat)} {X : Cx} {s : Shared} {H : Hp} {cl : List (Str × Addr)} {C : Addr} {fp : List Addr} (h1 : X.N = N) (h2 : X.env.scope = sc0) (h : blkC N (relS scope0 sc0) scope own = true) :
    blkC (X.blk s H scope0 (compEnvC scope0 cl C X.env) fp).N (X.blk s H scope0 (compEnvC scope0 cl C X.env) fp).env.scope scope own = true := by
  subst h1 h2
  exact h
theorem DivOk.blk {X : Cx} (D : DivOk X) {s : Shared} {H : Hp} {scope : Scope} {cenv : PySem.Env} {fp : List Addr} : DivOk (X.blk s H scope cenv fp) := ⟨D.seer, D.tree, D.deep, D.top⟩
section
variable {X : Cx} {elt iter : Expr} {ifs : List Expr} {scope : Scope} {pos : Pos} {mi : MI} {mt : MT} {me : M} {y : Str} {p : Pos}
end
section
variable {K : PySem.W.Frag} {Hf H Hf' H' : Hp} {X : Cx}
/-! sorted, of ints -/
theorem pw_perm_eq : ∀ {xs ys : List Int}, xs.Perm ys → xs.Pairwise (· ≤ ·) → ys.Pairwise (· ≤ ·) → xs = ys := fun p h1 h2 =>
  List.Perm.eq_of_pairwise (fun a b _ _ h1 h2 => Int.le_antisymm h1 h2) h1 h2 p
theorem isort_perm (ns : List Int) : (isort ns).Perm ns := List.mergeSort_perm _ _
theorem isort_sorted (ns : List Int) : (isort ns).Pairwise (· ≤ ·) := by
  have h := List.pairwise_mergeSort (le := fun a b : Int => decide (a ≤ b)) (fun a b c h1 h2 => by simp only [decide_eq_true_eq] at *; omega) (fun a b => by simp only [Bool.or_eq_true, decide_eq_true_eq]; omega) ns
  exact h.imp fun z => by simpa using z
theorem c_sorted : C1 X (.builtin "sorted") fSorted := ⟨_, cr_sortedI, fun Hf H c x z e hc e5 Q q => by
  simp only [fSorted, Option.bind_eq_some_iff, Option.map_eq_some_iff] at e5
  obtain ⟨xs, h1, ns, h2, rfl⟩ := e5
  obtain ⟨a, us, rfl, hs, d⟩ := lst_ok e hc h1
  rw [ints_ok h2 d] at hs
  refine ⟨a, ns, rfl, hs, fun ns' p h3 h4 hp => ?_⟩
  rw [pw_perm_eq (h3.trans (isort_perm ns).symm) h4 (isort_sorted ns)]
  exact newL e (dps_ints _) q p hp⟩
end
end Py
/-! PyA0: further meanings. -/
namespace Py
open PySem
/-- is True, is False -/
def fIsB (neg : Bool) : Ct → Ct → Option R
  | .pv (.bool a), .pv (.bool b) => some (.val (.bool (neg ^^ (a == b))))
  | _, _ => none
def flatD : PV → Bool
  | .int _ => true
  | .str _ => true
  | _ => false
def inD (x : PV) (xs : List PV) : Bool := xs.any fun y => PyData.eqv y x
/-- x in a list or a tuple -/
def fIn (neg : Bool) (c d : Ct) : Option R := match c with
  | .pv x => d.seq?.bind fun xs => if flatD x = true ∧ xs.all flatD = true then some (.val (.bool (neg ^^ inD x xs))) else
    d.lst?.bind fun xs => if SeqAt.shaped x = true ∧ SeqAt.shaped (.list xs) = true then some (.val (.bool (neg ^^ inD x xs))) else none
  | _ => none
/-- list(range(n)), list(range(m, n)) -/
def mLstR1 (a : M) : M := fun ρ => (a ρ).bind fun x => (look x.1 x.2).bind fun c => (intOf c).bind fun n => if n ≤ line ∧ -(2 ^ 62) ≤ n then some (.new (.lst (rangeL 0 n.toNat)), x.2) else none
def mLstR2 (a b : M) : M := fun ρ => (a ρ).bind fun x => (look x.1 x.2).bind fun c => (intOf c).bind fun lo => (b x.2).bind fun y => (look y.1 y.2).bind fun d => (intOf d).bind fun hi =>
  if -(2 ^ 61) ≤ lo ∧ lo < 2 ^ 61 ∧ -(2 ^ 61) ≤ hi ∧ hi < 2 ^ 61 ∧ (hi - lo) ≤ line then some (.new (.lst (rangeL lo (hi - lo).toNat)), y.2) else none
/-- xs[e] op= a -/
def sAugIx (i : Nat) (e : M) (f : Ct → Ct → Option R) (a : M) : SM := fun ρ => (lstAt ρ i).bind fun _ => (e ρ).bind fun y => (look y.1 y.2).bind fun c => (intOf c).bind fun k => (lstAt y.2 i).bind fun xs => (atI xs k).bind fun v =>
  (a y.2).bind fun x => (look x.1 x.2).bind fun c2 => (f (.pv v) c2).bind fun z => match z with
    | .val w => (lstAt x.2 i).bind fun ys => (ixN ys.length k).map fun j => (.nx, setOb x.2 i (.lst (ys.set j w)))
    | _ => none
/-- xs[::-1] of a list -/
def fRevL (c : Ct) : Option R := c.lst?.map fun xs => .new (.lst xs.reverse)
def fRevT (c : Ct) : Option R := c.tup?.map fun xs => .val (.tuple xs.reverse)
/-- range(lo, hi, -1) -/
def rangeD (lo : Int) (n : Nat) : List PV := (List.range n).map fun (k : Nat) => .int (lo - (k : Int))
def iRngD (a b : M) : MI := fun ρ => (a ρ).bind fun x => (look x.1 x.2).bind fun c => (intOf c).bind fun lo => (b x.2).bind fun y => (look y.1 y.2).bind fun d => (intOf d).bind fun hi =>
  if -(2 ^ 61) ≤ lo ∧ lo < 2 ^ 61 ∧ -(2 ^ 61) ≤ hi ∧ hi < 2 ^ 61 ∧ (lo - hi) ≤ line then some (rangeD lo (lo - hi).toNat, y.2) else none
/-- xs.insert(e, v) -/
def mInsert (i : Nat) (e a : M) : M := fun ρ => (lstAt ρ i).bind fun _ => (e ρ).bind fun y => (look y.1 y.2).bind fun c => (intOf c).bind fun k => (a y.2).bind fun x => (frz x.1 x.2).bind fun v => (lstAt v.2 i).bind fun xs =>
  if 0 ≤ k ∧ k < 2 ^ 62 ∧ xs.length < line then some (.val .none, setOb v.2 i (.lst (xs.take k.toNat ++ [v.1] ++ xs.drop k.toNat))) else none
/-- xs.index(e) of flat items -/
def fIndex (c d : Ct) : Option R := match d with
  | .pv x => c.lst?.bind fun xs => if flatD x = true ∧ xs.all flatD = true then (xs.findIdx? fun y => PyData.eqv y x).map fun j => .val (.int (j : Nat)) else none
  | _ => none
/-! dicts -/
def dctAt (ρ : Env) (i : Nat) : Option (List (Key × PV)) := match obAt ρ i with
  | some (.dct kvs) => some kvs
  | _ => none
def keyC : Ct → Option Key
  | .pv v => keyOf v
  | _ => none
def fDget : Ct → Ct → Option R
  | .ob (.dct kvs), c => (keyC c).bind fun k => (dGet kvs k).map .val
  | _, _ => none
/-- k in d -/
def fDin (neg : Bool) : Ct → Ct → Option R
  | c, .ob (.dct kvs) => (keyC c).map fun k => .val (.bool (neg ^^ (dGet kvs k).isSome))
  | _, _ => none
/-- d.get(k, v) -/
def mDget2 (d k v : M) : M := fun ρ => (d ρ).bind fun x => (look x.1 x.2).bind fun _ => (k x.2).bind fun y => (look y.1 y.2).bind fun ck => (keyC ck).bind fun key => (v y.2).bind fun z => (look x.1 z.2).bind fun c => match c, z.1 with
  | .ob (.dct kvs), .val w => some (.val ((dGet kvs key).getD w), z.2)
  | _, _ => none
/-- d[k] = v -/
def sDput (i : Nat) (e a : M) : SM := fun ρ => (a ρ).bind fun x => (frz x.1 x.2).bind fun v => (dctAt v.2 i).bind fun _ => (e v.2).bind fun y => (look y.1 y.2).bind fun c => (keyC c).bind fun k => (dctAt y.2 i).bind fun kvs =>
  if kvs.length < line then some (.nx, setOb y.2 i (.dct (dPut kvs k v.1))) else none
end Py
namespace Py
open PySem
def mIndex (a b : M) : M := fun ρ => (a ρ).bind fun x => (look x.1 x.2).bind fun c0 => c0.lst?.bind fun _ => (b x.2).bind fun y => (look x.1 y.2).bind fun cx => (look y.1 y.2).bind fun cy => (fIndex cx cy).map fun z => (z, y.2)
end Py
/-! PyA: rules of the further meanings. -/
namespace Py
open PySem PySem.Spec PyProof.Rows L2
section
variable {K : PySem.W.Frag} {Hf H Hf' H' Hf1 H1 Hf2 H2 H0 : Hp} {ρ ρ' ρ1 ρ2 : Env} {σ σ' σ1 σ2 : L2.St} {O O' O1 : Addr → Prop} {X : Cx}
/-! is True -/
/-! in -/
theorem flat_V {u : V} {v : PV} (d : Dp K Hf u v) (h : flatD v = true) : flatV u = true := by
  cases d with
  | int _ => rfl
  | str _ => rfl
  | _ => cases h
theorem flat_eq {u w : V} {v x : PV} (d : Dp K Hf u v) (d2 : Dp K Hf w x) (h : flatD v = true) (h2 : flatD x = true) : eqV u w = PyData.eqv v x := by
  cases d with
  | int i =>
    cases d2 with
    | int j => rfl
    | str _ => rfl
    | _ => cases h2
  | str i =>
    cases d2 with
    | int j => rfl
    | str _ => rfl
    | _ => cases h2
  | _ => cases h
theorem flat_all : ∀ {us : List V} {xs : List PV}, DpAll K Hf us xs → xs.all flatD = true → us.all flatV = true
  | _, _, .nil, _ => rfl
  | _, _, .cons d t, h => by
    rw [List.all_cons, Bool.and_eq_true] at h ⊢
    exact ⟨flat_V d h.1, flat_all t h.2⟩
theorem flat_in {w : V} {x : PV} (d2 : Dp K Hf w x) (h2 : flatD x = true) : ∀ {us : List V} {xs : List PV}, DpAll K Hf us xs → xs.all flatD = true → inV w us = inD x xs
  | _, _, .nil, _ => rfl
  | _, _, .cons d t, h => by
    rw [List.all_cons, Bool.and_eq_true] at h
    have := flat_in d2 h2 t h.2
    unfold inV inD at this ⊢
    rw [List.any_cons, List.any_cons, this, flat_eq d d2 h.1 h2]
theorem seq_ok {c : Ct} {xs : List PV} {u : V} (e : Ex Hf H) (hc : RepC K Hf H c u) (h : c.seq? = some xs) : ∃ a us, u = .ref a ∧ (SqL K H a us ∨ SqT K H a us) ∧ DpAll K Hf us xs := by
  unfold Ct.seq? at h
  split at h
  · cases h; cases hc with | lst hs ha => exact ⟨_, _, rfl, .inl (ex_l e hs), ha⟩
  · cases h; cases hc with | tup hs ha => exact ⟨_, _, rfl, .inr (ex_t e hs), ha⟩
  · cases h; obtain ⟨a, rfl, us, h1, d1⟩ := hc; exact ⟨_, _, rfl, .inl (SqL.of h1), d1⟩
  · cases h
theorem lst_dp {c : Ct} {xs : List PV} {u : V} (e : Ex Hf H) (hc : RepC K Hf H c u) (h : c.lst? = some xs) : Dp K H u (.list xs) := by
  obtain ⟨a, us, rfl, hs, ha⟩ := lst_ok e hc h
  exact .lst hs (dps_mono e _ _ ha)
theorem in_S {neg : Bool} : OpS K (fun x y H Q => rIn K neg x y H Q ∨ (∃ d ds, Dp K H x d ∧ Dp K H y (.list ds) ∧ SeqAt.shaped d = true ∧ SeqAt.shaped (.list ds) = true ∧ Q (.bl (neg ^^ (ds.any fun z => PyData.eqv z d))) H)) (fIn neg) := fun Hf H c d x y z e hc hd e5 Q q => by
  unfold fIn at e5
  split at e5
  · rename_i v
    simp only [Option.bind_eq_some_iff] at e5
    obtain ⟨xs, h1, h2⟩ := e5
    split at h2
    · rename_i hf
      cases h2
      obtain ⟨a, us, rfl, hs, da⟩ := seq_ok e hd h1
      refine .inl ⟨a, us, rfl, hs, flat_V (dp_mono e _ _ hc) hf.1, flat_all da hf.2, ?_⟩
      rw [flat_in hc hf.1 da hf.2]
      have eb : (if neg = true then !inD v xs else inD v xs) = (neg ^^ inD v xs) := by cases neg <;> simp
      rw [eb]
      exact old e (.bl _) q
    · simp only [Option.bind_eq_some_iff] at h2
      obtain ⟨ys, h3, h4⟩ := h2
      split at h4
      · rename_i hf
        cases h4
        exact .inr ⟨v, ys, dp_mono e _ _ hc, lst_dp e hd h3, hf.1, hf.2, old e (.bl _) q⟩
      · cases h4
  · cases e5
theorem op_inDx (hu : X.A.units + 65 < cLine) : OpR X (compareOp .In) (fun x y H Q => ∃ d ds, Dp X.K H x d ∧ Dp X.K H y (.list ds) ∧ SeqAt.shaped d = true ∧ SeqAt.shaped (.list ds) = true ∧ Q (.bl (false ^^ (ds.any fun z => PyData.eqv z d))) H) := by
  intro pins s σ H x y v u Q I rx ry h
  obtain ⟨d, ds, a1, a2, a3, a4, q⟩ := h
  exact op_inD hu pins s σ H x y v u Q I rx ry ⟨d, ds, a1, a2, a3, a4, by rwa [Bool.false_xor] at q⟩
theorem op_notInDx (hu : X.A.units + 65 < cLine) : OpR X (compareOp .NotIn) (fun x y H Q => ∃ d ds, Dp X.K H x d ∧ Dp X.K H y (.list ds) ∧ SeqAt.shaped d = true ∧ SeqAt.shaped (.list ds) = true ∧ Q (.bl (true ^^ (ds.any fun z => PyData.eqv z d))) H) := by
  intro pins s σ H x y v u Q I rx ry h
  obtain ⟨d, ds, a1, a2, a3, a4, q⟩ := h
  exact op_notInD hu pins s σ H x y v u Q I rx ry ⟨d, ds, a1, a2, a3, a4, by rwa [Bool.true_xor] at q⟩
theorem ob_in (hu : X.A.units + 65 < cLine) : OpB X (compareOp .In) (fIn false) := ⟨_, op_in_seq.or (op_inDx hu), in_S⟩
theorem ob_notIn (hu : X.A.units + 65 < cLine) : OpB X (compareOp .NotIn) (fIn true) := ⟨_, op_notIn_seq.or (op_notInDx hu), in_S⟩
/-! list(range(..)) -/
theorem dps_rng (lo : Int) (n : Nat) : DpAll K Hf ((List.range n).map fun i => V.int (lo + (i : Nat))) (rangeL lo n) := by
  unfold rangeL
  induction (List.range n) with
  | nil => exact .nil
  | cons a l ih => exact .cons (.int _) ih
theorem se_lstR1 {te : TE} {a : M} (ha : SE K te a) : SE K (tLstRg (tRg1 te)) (mLstR1 a) := by
  intro ρ r ρ' σ Hf H hm E Q q
  simp only [mLstR1, Option.bind_eq_some_iff] at hm
  obtain ⟨⟨x, ρ1⟩, e1, c, e2, n, e3, e4⟩ := hm
  split at e4
  · rename_i hz
    cases e4
    refine ha ρ x ρ1 σ Hf H e1 E _ fun u Hf1 H1 S1 E1 R1 k1 => ?_
    have B1 : Bh K Hf H ρ σ Hf1 H1 ρ1 := ⟨S1, E1, k1⟩
    have hl : (line : Int) = 16777216 := rfl
    refine ⟨n, intOf_some e3 (look_ok E1 R1 e2), ⟨by omega, by omega, by omega, by omega, by omega⟩, fun p hp => ?_⟩
    obtain ⟨S, fp⟩ := new_ob (o := .lst (rgV 0 n)) E1.ff hp
    have B2 := B1.more S
    refine q _ _ _ B2.st B2.en ⟨p, rfl, B1.fresh hp, fp, _, upd_same, ?_⟩ B2.kp
    unfold rgV
    rw [Int.sub_zero]
    exact dps_rng 0 n.toNat
  · cases e4
end
section
variable {X : Cx} {a b : Expr} {ma mb : M} {p p' pos pos' : Pos}
theorem be_lstR1 (hc : X.calm = true) (hg : Gl X "list") (hm : X.mg "list" = none) (hg' : Gl X "range") (hm' : X.mg "range" = none) (ha : BE X a ma) (na : starEach [a] X.env = (false, eval a X.env) :: starEach [] X.env := by rfl)
    (na' : starEach [.Call (.Name "range" p') [a] [] pos'] X.env = (false, eval (.Call (.Name "range" p') [a] [] pos') X.env) :: starEach [] X.env := by rfl) : BE X (.Call (.Name "list" p) [.Call (.Name "range" p') [a] [] pos'] [] pos) (mLstR1 ma) := by
  obtain ⟨t, a1, a2⟩ := ha
  exact ⟨_, pe_listRg hc hg hm (prg_1 hg' hm' a1 na) na', se_lstR1 a2⟩
end
end Py
/-! PyB: rules of the further meanings: stores, dicts. -/
namespace Py
open PySem PySem.Spec PyProof.Rows L2
section
variable {K : PySem.W.Frag} {Hf H Hf' H' Hf1 H1 Hf2 H2 H0 : Hp} {ρ ρ' ρ1 ρ2 : Env} {σ σ' σ1 σ2 : L2.St} {O O' O1 : Addr → Prop} {X : Cx}
/-- range(lo, hi, -1) -/
theorem walk_d {lo : Int} {n : Nat} : Walk K (Itc lo (-1) n) (rangeD lo n) O Hf H := by
  intro Hf2 H2 S i
  unfold rangeD
  constructor
  · intro x hx
    rw [List.getElem?_map, Option.map_eq_some_iff] at hx
    obtain ⟨k, h1, rfl⟩ := hx
    obtain ⟨h2, h3⟩ := List.getElem?_eq_some_iff.mp h1
    rw [List.getElem_range] at h3
    subst h3
    rw [List.length_range] at h2
    refine ⟨h2, fun u H3 ⟨e1, e2⟩ => ⟨e1, ?_⟩⟩
    rw [e2, show lo + (i : Int) * -1 = lo - (i : Int) by omega]
    exact .int _
  · intro hi
    have h : n ≤ i := by simpa using hi
    exact h
theorem si_rngD {te tf tg : TE} {a b : M} (ha : SE K te a) (hb : SE K tf b) (hc : ∀ σ H Q, Q (.int (-1)) H → tg σ H Q) : SI K (L2.iRng3 (tCons te (tCons tf (tCons tg tNil)))) (Py.iRngD a b) := by
  intro ρ xs ρ' σ Hf H hm E R q
  simp only [Py.iRngD, Option.bind_eq_some_iff] at hm
  obtain ⟨⟨x, ρ1⟩, e1, c, e2, n, e3, ⟨y, ρ2⟩, e4, d, e5, k, e6, e7⟩ := hm
  split at e7
  · rename_i hz
    cases e7
    refine ha ρ x ρ1 σ Hf H e1 E _ fun u Hf1 H1 S1 E1 R1 k1 => ?_
    have B1 : Bh K Hf H ρ σ Hf1 H1 ρ1 := ⟨S1, E1, k1⟩
    have eu := intOf_some e3 (look_ok E1 R1 e2)
    refine hb ρ1 y ρ2 σ Hf1 H1 e4 E1 _ fun w Hf2 H2 S2 E2 R2 k2 => ?_
    have B2 := B1.trans (⟨S2, E2, k2⟩ : Bh K Hf1 H1 ρ1 σ Hf2 H2 ρ2)
    refine hc σ H2 _ ?_
    exact ⟨n, k, -1, (n - k).toNat, by rw [eu, intOf_some e6 (look_ok E2 R2 e5)], RgC.neg (by omega) (by omega) (by omega) (by omega), q _ Hf2 H2 B2 walk_d⟩
  · cases e7
end
section
variable {X : Cx} {a b e : Expr} {ma mb me : M} {x y : Str} {p p' apos pos pos' : Pos}
end
end Py
/-! PyC: dicts. -/
namespace Py
open PySem PySem.Spec PyProof.Rows L2
section
variable {K : PySem.W.Frag} {Hf H Hf' H' Hf1 H1 Hf2 H2 H0 : Hp} {ρ ρ' ρ1 ρ2 : Env} {σ σ' σ1 σ2 : L2.St} {O O' O1 : Addr → Prop} {X : Cx}
end
section
variable {X : Cx} {a b e : Expr} {ma mb me : M} {x y : Str} {p p' apos pos pos' : Pos}
end
end Py
/-! PyD: methods, slices. -/
namespace Py
open PySem PySem.Spec PyProof.Rows L2
section
variable {K : PySem.W.Frag} {Hf H Hf' H' Hf1 H1 Hf2 H2 H0 : Hp} {ρ ρ' ρ1 ρ2 : Env} {σ σ' σ1 σ2 : L2.St} {O O' O1 : Addr → Prop} {X : Cx}
end
section
variable {X : Cx} {a b e : Expr} {ma mb me : M} {x y : Str} {p p' apos pos pos' : Pos}
theorem bi_rngD {tg : Expr} {k : Nat} {p1 p2 : Pos} (hg : Gl X "range") (hm : X.mg "range" = none) (ha : BE X a ma) (hb : BE X b mb)
    (hs : starEach [a, b, .UnaryOp .USub (.Constant (.int 1) k p1) p2] X.env = (false, eval a X.env) :: starEach [b, .UnaryOp .USub (.Constant (.int 1) k p1) p2] X.env := by rfl)
    (hs2 : starEach [b, .UnaryOp .USub (.Constant (.int 1) k p1) p2] X.env = (false, eval b X.env) :: starEach [.UnaryOp .USub (.Constant (.int 1) k p1) p2] X.env := by rfl)
    (hs3 : starEach [.UnaryOp .USub (.Constant (.int 1) k p1) p2] X.env = (false, eval (.UnaryOp .USub (.Constant (.int 1) k p1) p2) X.env) :: starEach [] X.env := by rfl)
    (hpl : (backTo pos (starEach [b, .UnaryOp .USub (.Constant (.int 1) k p1) p2] X.env)).any (·.1) = false := by rfl) :
    BI X tg (.Call (.Name "range" p) [a, b, .UnaryOp .USub (.Constant (.int 1) k p1) p2] [] pos) (Py.iRngD ma mb) := by
  obtain ⟨t, a1, a2⟩ := ha
  obtain ⟨u, b1, b2⟩ := hb
  have hst : PE X (.UnaryOp .USub (.Constant (.int 1) k p1) p2) (tUn (rU fun i => .int (-i)) (tC (.int 1))) := pe_un un_neg pe_int
  refine ⟨_, pi_range3 hg hm (pa_cons a1 (pa_cons b1 (pa_cons hst pa_nil hs3) hs2) hs) hs hpl, si_rngD a2 b2 fun σ H Q q => ⟨1, rfl, q⟩⟩
end
end Py
namespace Py
open PySem PySem.Spec PyProof.Rows L2
section
variable {X : Cx} {a b e : Expr} {ma mb me : M} {pos : Pos}
end
end Py
/-! PyE: t[::-1] of a tuple. -/
namespace HT
open PySem PySem.Spec PyProof.Rows
variable {prog : Program} {w : World} {A : Around} {E : Value → Shared → Prop} {s : Shared}
end HT
namespace L2
open PySem PySem.Spec PyProof.Rows
variable {X : Cx}
def tRevT (K : PySem.W.Frag) (te : TE) : TE := fun σ H Q => te σ H fun x H1 => ∃ a xs, x = .ref a ∧ SqT K H1 a xs ∧ ∀ p, H1 p = none → Q (.ref p) (upd H1 p (.tup xs.reverse))
end L2
namespace Py
open PySem PySem.Spec PyProof.Rows L2
end Py
/-! PyF0: further meanings. -/
namespace Py
open PySem
def Ct.dat : Ct → Option PV
  | .pv v => some v
  | .ob (.lst xs) => some (.list xs)
  | _ => none
/-- == of lists -/
def fEqA (neg : Bool) (c d : Ct) : Option R := c.dat.bind fun x => d.dat.bind fun y => if SeqAt.shaped x = true ∧ SeqAt.shaped y = true then some (.val (.bool (neg ^^ PyData.eqv x y))) else none
end Py
/-! PyF: == of lists. -/
namespace Py
open PySem PySem.Spec PyProof.Rows L2
section
variable {K : PySem.W.Frag} {Hf H : Hp} {X : Cx}
end
end Py
/-! PyG0: sorted, of tuples of ints; two clauses. -/
namespace Py
open PySem
def tupI? : PV → Option (List Int)
  | .tuple xs => ints? xs
  | _ => none
/-- before, of tuples of ints -/
def lexB : List Int → List Int → Bool
  | _, [] => false
  | [], _ :: _ => true
  | a :: as, b :: bs => decide (a < b) || (decide (a = b) && lexB as bs)
def lexLe (a b : List Int) : Bool := !lexB b a
def tsort (nss : List (List Int)) : List (List Int) := nss.mergeSort lexLe
def tupV (ns : List Int) : PV := .tuple (ns.map .int)
def fSortedT (c : Ct) : Option R := c.lst?.bind fun xs => (xs.mapM tupI?).bind fun nss => if nss.all (fun ns => !ns.isEmpty) = true then some (.new (.lst ((tsort nss).map tupV))) else none
/-- of a tuple of ints -/
def fSumT (c : Ct) : Option R := c.tup?.bind fun xs => (ints? xs).map fun ns => .val (.int ns.sum)
def fMaxT (c : Ct) : Option R := c.tup?.bind fun xs => (ints? xs).bind fun ns => if ns = [] then none else some (.val (.int (maxL ns)))
/-- [e for x in a if t for y in b if u] -/
def lcTurn2 (g : MG) (vs : List Nat) (t : MT) (it1 : MI) (g1 : MG) (vs1 : List Nat) (t1 : MT) (e : M) (x : PV) (ρ : Env) : Option (List PV × Env) :=
  (g (.val x) (wipe ρ vs)).bind fun ρ1 => (t ρ1).bind fun b => if b.1 then (it1 b.2).bind fun ys => if ys.1.length ≤ line then lcF (lcTurn g1 vs1 t1 e) ys.1 ys.2 else none else some ([], b.2)
def mLc2 (it : MI) (g : MG) (vs : List Nat) (t : MT) (it1 : MI) (g1 : MG) (vs1 : List Nat) (t1 : MT) (e : M) : M := fun ρ => (it ρ).bind fun xs => if xs.1.length ≤ line then
  (lcF (lcTurn2 g vs t it1 g1 vs1 t1 e) xs.1 xs.2).bind fun y => if y.1.length ≤ line then some (.new (.lst y.1), back xs.2 vs y.2) else none else none
end Py
/-! PyG: sorted, of tuples of ints. -/
namespace Py
open PySem PySem.Spec PyProof.Rows L2
section
variable {K : PySem.W.Frag} {Hf H : Hp} {X : Cx}
/-- sorted(xs), xs a list of tuples of ints -/
def rSortV (K : PySem.W.Frag) : List V → Hp → VK → Prop := fun vs H Q => ∃ (a : Addr) (xs : List V), vs = [V.ref a] ∧ SqL K H a xs ∧ (∀ x ∈ xs, ∃ ns, ns ≠ [] ∧ TupI K H x ns) ∧
  ∀ (ys : List V) (p : Addr), ys.Perm xs → ys.Pairwise (fun x y => ∀ n m, TupI K H x n → TupI K H y m → lexLe n m = true) → H p = none → Q (.ref p) (upd H p (.lst ys))
/-! the meaning -/
theorem ints_mapI {xs : List PV} {ns : List Int} (h : ints? xs = some ns) : xs = ns.map .int := by
  induction xs generalizing ns with
  | nil => cases h; rfl
  | cons x xs ih =>
    unfold ints? at h ih
    simp only [List.mapM_cons, Option.bind_eq_bind, Option.bind_eq_some_iff] at h
    obtain ⟨n, h1, ms, h2, h3⟩ := h
    cases h3
    cases x <;> simp [intV?] at h1
    subst h1
    rw [ih h2]; rfl
end
end Py

namespace Py
open PySem PySem.Spec PyProof.Rows L2
section
variable {prog : Program} {w : World} {A : Around} {E : Value → Shared → Prop} {s : Shared} {t : Addr} {xs : Array (Int × Tok)} {its : List Value} {ns : List Int} {Q : Value → Shared → Prop}
end
section
variable {K : PySem.W.Frag} {Hf H : Hp} {X : Cx}
def rSumT (K : PySem.W.Frag) : List V → Hp → VK → Prop := fun vs H Q => ∃ (a : Addr) (ns : List Int), vs = [V.ref a] ∧ SqT K H a (ns.map V.int) ∧ Q (.int ns.sum) H
def rMaxT (K : PySem.W.Frag) : List V → Hp → VK → Prop := fun vs H Q => ∃ (a : Addr) (ns : List Int), vs = [V.ref a] ∧ SqT K H a (ns.map V.int) ∧ 0 < ns.length ∧ ∀ m, m ∈ ns → (∀ y, y ∈ ns → y ≤ m) → Q (.int m) H
end
end Py
/-! PyH: comprehensions of two clauses. -/
namespace Py
open PySem PySem.Spec PyProof.Rows L2
section
variable {K : PySem.W.Frag} {Hf H Hf' H' Hf1 H1 Hf2 H2 H0 : Hp} {ρ ρ' ρ1 ρ2 : Env} {σ σ' σ1 σ2 : L2.St} {O O' O1 : Addr → Prop} {X : Cx}
/-- as SI, over any objects that were there ahead -/
def SI2 (K : PySem.W.Frag) (wi : TI) (m : MI) : Prop := ∀ (ρ : Env) (xs : List PV) (ρ' : Env) (σ : L2.St) (Hf H : Hp), m ρ = some (xs, ρ') → RepE K Hf H ρ σ → ∀ R : It → Hp → Prop,
  (∀ J Hf' H', Bh K Hf H ρ σ Hf' H' ρ' → (∀ O : Addr → Prop, (∀ p, O p → H p ≠ none) → Walk K J xs O Hf' H') → R J H') → wi σ H R
structure BI2 (X : Cx) (tg e : Expr) (m : MI) : Prop where
  ex : ∃ wi, PI X tg e wi ∧ SI2 X.K wi m
theorem si2_seq {te : TE} {a : M} (ha : SE K te a) : SI2 K (iSq K te) (iSeq a) := by
  intro ρ xs ρ' σ Hf H hm E R q
  simp only [iSeq, Option.bind_eq_some_iff] at hm
  obtain ⟨⟨x, ρ1⟩, e1, e2⟩ := hm
  refine ha ρ x ρ1 σ Hf H e1 E _ fun u Hf1 H1 S1 E1 R1 k1 => ?_
  have B1 : Bh K Hf H ρ σ Hf1 H1 ρ1 := ⟨S1, E1, k1⟩
  cases x with
  | val v =>
    have R1' : Dp K Hf1 u v := R1
    cases v with
    | list ys =>
      cases e2
      cases R1' with
      | lst hs d => exact ⟨_, rfl, .inl ⟨⟨_, ex_l E1.ff hs⟩, q _ Hf1 H1 B1 fun O _ => walk_l (fun Hf2 H2 S => ex_l S.fh (ex_l S.ff hs)) d⟩⟩
    | tuple ys =>
      cases e2
      cases R1' with
      | tup hs d => exact ⟨_, rfl, .inr ⟨⟨_, ex_t E1.ff hs⟩, q _ Hf1 H1 B1 fun O _ => walk_t (fun Hf2 H2 S => ex_t S.fh (ex_t S.ff hs)) d⟩⟩
    | none => cases e2
    | bool b => cases e2
    | int i => cases e2
    | str y => cases e2
    | dict y => cases e2
  | new o =>
    cases o with
    | lst ys =>
      cases e2
      obtain ⟨p, rfl, z, f, us, hu, d⟩ := R1
      exact ⟨p, rfl, .inl ⟨⟨us, SqL.of hu⟩, q _ Hf1 H1 B1 fun O hO => walk_l (fun Hf2 H2 S => SqL.of (S.keep p _ hu fun w => hO p w z)) d⟩⟩
    | dct ys => cases e2
  | bor i => cases e2
structure LcO (K : PySem.W.Frag) (O : Addr → Prop) (Hf1 H1 : Hp) (ρ1 : Env) (σ : L2.St) (vs : List Nat) (D : Addr) (done : List PV) (ρ2 : Env) (Hf2 H2 : Hp) : Prop where
  acc : ∃ us, H2 D = some (.lst us) ∧ DpAll K Hf2 us done
  few : done.length ≤ line
  fd : Hf2 D = none
  st : Step O Hf1 H1 Hf2 H2
  en : RepE K Hf2 H2 (Py.wipe ρ2 vs) (L2.wipe σ vs)
  nm : Nm vs ρ1 ρ2
theorem wipe_wipe (σ : L2.St) (vs : List Nat) : L2.wipe (L2.wipe σ vs) vs = L2.wipe σ vs := by
  apply List.ext_getElem?
  intro j
  rw [wipe_get?, wipe_length, wipe_get?]
  by_cases hj : j ∈ vs ∧ j < σ.length <;> simp [hj]
/-- a target stored in a block -/
theorem lc_tg {g : TG} {mg : MG} {vs : List Nat} {D : Addr} {done : List PV} {x : PV} {u : V} {ρ4 : Env} (hO : ∀ p, Own (Py.wipe ρ1 vs) (L2.wipe σ vs) p → O p) (nD1 : ¬ Own (Py.wipe ρ1 vs) (L2.wipe σ vs) D) (hg : SG K g mg) (hv : TgIn g mg vs) (len1 : ρ1.length = σ.length)
    (L : LcO K O Hf1 H1 ρ1 σ vs D done ρ2 Hf2 H2) (hx : Dp K Hf2 u x) (e1 : mg (.val x) (Py.wipe ρ2 vs) = some ρ4) {Q : L2.St → Hp → Prop}
    (hQ : ∀ σ4 Hf4, L2.wipe σ4 vs = L2.wipe σ vs → RepE K Hf4 H2 ρ4 σ4 → (∀ {Hf5 H5 : Hp} {ρ5 : Env}, Bh K Hf4 H2 ρ4 σ4 Hf5 H5 ρ5 → Step O Hf1 H1 Hf5 H5 ∧ RepE K Hf5 H5 (Py.wipe ρ5 vs) (L2.wipe σ vs) ∧ Nm vs ρ1 ρ5 ∧ (∃ us, H5 D = some (.lst us) ∧ DpAll K Hf5 us done) ∧ Hf5 D = none ∧ ¬ Own ρ5 σ4 D ∧ ∀ p, Own ρ5 σ4 p → Own (Py.wipe ρ1 vs) (L2.wipe σ vs) p ∨ H1 p = none) → Q σ4 H2) :
    g u (L2.wipe σ vs) H2 fun σ2 H3 => L2.wipe σ2 vs = L2.wipe σ vs ∧ Q σ2 H3 := by
  have ww := wipe_wipe σ vs
  have kn : ∀ q, Own (Py.wipe ρ2 vs) (L2.wipe σ vs) q → H2 q ≠ none := fun q hq z => by
    obtain ⟨⟨o, ho⟩, _⟩ := L.en.there hq
    rw [z] at ho; cases ho
  have g1 : g u (L2.wipe σ vs) H2 fun σ4 H3 => H3 = H2 ∧ ∃ Hf4, BhG K Hf2 H2 H2 (Py.wipe ρ2 vs) (L2.wipe σ vs) Hf4 ρ4 σ4 := hg (.val x) (Py.wipe ρ2 vs) ρ4 (L2.wipe σ vs) Hf2 H2 H2 u e1 L.en hx kn _ fun σ4 Hf4 B4 => ⟨rfl, Hf4, B4⟩
  refine hv.c u _ _ _ _ ?_ (hv.a u _ _ _ g1)
  rintro σ4 H3 ⟨⟨rfl, Hf4, B4⟩, w4⟩
  rw [ww] at w4
  refine ⟨w4, ?_⟩
  obtain ⟨us, hus, dus⟩ := L.acc
  have own4 : ∀ p, Own ρ4 σ4 p → Own (Py.wipe ρ1 vs) (L2.wipe σ vs) p ∨ H1 p = none ∧ H3 p = none := fun p hp => by
    rcases B4.own p hp with z | z
    · exact .inl (own_wipe L.nm z)
    · exact .inr ⟨L.st.fresh z, z⟩
  have nD4 : ¬ Own ρ4 σ4 D := fun h => by
    rcases own4 D h with z | ⟨_, z⟩
    · exact nD1 z
    · rw [hus] at z; cases z
  have nm4 : ∀ j, j ∉ vs → get ρ4 j = get ρ2 j := fun j hj => by rw [hv.b x _ _ e1 j hj, get_wipe, if_neg hj]
  have len4 : ρ4.length = ρ1.length := by
    rw [B4.en.len, ← wipe_length σ4 vs, w4, wipe_length, ← len1]
  have st4 : Step O Hf1 H1 Hf4 H3 := L.st.trans B4.st fun p hp => by
    rcases hp with z | z
    · exact .inl (hO p (own_wipe L.nm z))
    · exact .inr (L.st.fresh z)
  have fd4 : Hf4 D = none := by rw [B4.st.nof D _ hus (fun z => by rcases z with z | z; exact nD1 (own_wipe L.nm z); rw [hus] at z; cases z)]; exact L.fd
  refine hQ σ4 Hf4 w4 B4.en fun {Hf5 H5 ρ5} B => ?_
  refine ⟨st4.trans B.st fun p hp => (own4 p hp).imp (hO p) (·.1), ?_, ⟨?_, fun j hj => ⟨fun h => ?_, ?_⟩⟩, ⟨us, B.st.keep D _ hus nD4, dps_mono B.st.ff _ _ (dps_mono B4.st.ff _ _ dus)⟩, ?_, fun h => nD4 (B.kp.sub h), fun p h => (own4 p (B.kp.sub h)).imp id (·.1)⟩
  · have := B.en.wipe vs
    rw [w4] at this
    exact this
  · rw [B.en.len, ← B4.en.len]; exact len4
  · have h4 := B.kp.own j h
    rw [nm4 j hj] at h4
    exact (L.nm.2 j hj).1 h4
  · rw [B.kp.ref j, nm4 j hj]; exact (L.nm.2 j hj).2
  · rw [B.st.nof D _ hus nD4]; exact fd4
theorem lc_turnO {g : TG} {mg : MG} {tt : TT} {te : TE} {t : MT} {e : M} {vs : List Nat} {D : Addr} {done ys : List PV} {x : PV} {u : V} {ρ3 : Env} (hO : ∀ p, Own (Py.wipe ρ1 vs) (L2.wipe σ vs) p → O p) (hOD : O D ∨ H1 D = none) (nD1 : ¬ Own (Py.wipe ρ1 vs) (L2.wipe σ vs) D)
    (hg : SG K g mg) (hv : TgIn g mg vs) (ht : ST K tt t) (he : SE K te e) (len1 : ρ1.length = σ.length)
    (hz : (done ++ ys).length ≤ line) (L : LcO K O Hf1 H1 ρ1 σ vs D done ρ2 Hf2 H2) (hx : Dp K Hf2 u x) (hm : lcTurn mg vs t e x ρ2 = some (ys, ρ3)) {Nx : Hp → Prop} (hN : ∀ Hf3 H3, LcO K O Hf1 H1 ρ1 σ vs D (done ++ ys) ρ3 Hf3 H3 → Nx H3) :
    g u (L2.wipe σ vs) H2 fun σ2 H3 => L2.wipe σ2 vs = L2.wipe σ vs ∧ tt σ2 H3 fun b H4 =>
      if b = true then te σ2 H4 fun y H5 => ∃ acc, H5 D = some (.lst acc) ∧ acc.length < sizeLine ∧ Nx (upd H5 D (.lst (acc ++ [y]))) else Nx H4 := by
  simp only [lcTurn, Option.bind_eq_some_iff] at hm
  obtain ⟨ρ4, e1, ⟨b, ρ5⟩, e2, e3⟩ := hm
  refine lc_tg hO nD1 hg hv len1 L hx e1 fun σ4 Hf4 w4 E4 fin => ?_
  refine ht ρ4 b ρ5 σ4 Hf4 H2 e2 E4 _ fun Hf5 H5 S5 E5 k5 => ?_
  have B5 : Bh K Hf4 H2 ρ4 σ4 Hf5 H5 ρ5 := ⟨S5, E5, k5⟩
  cases b with
  | false =>
    simp only [Bool.false_eq_true, if_false] at e3 ⊢
    cases e3
    obtain ⟨f1, f2, f3, f4, f5, f6⟩ := fin B5
    rw [List.append_nil] at hN
    exact hN Hf5 H5 ⟨f4, L.few, f5, f1, f2, f3⟩
  | true =>
    simp only [if_true, Option.bind_eq_some_iff, Option.map_eq_some_iff, Prod.mk.injEq] at e3 ⊢
    obtain ⟨⟨r, ρ6⟩, e4, ⟨v, ρ7⟩, e5, rfl, rfl⟩ := e3
    refine he ρ5 r ρ6 σ4 Hf5 H5 e4 E5 _ fun y Hf6 H6 S6 E6 R6 k6 => ?_
    have B6 : Bh K Hf5 H5 ρ5 σ4 Hf6 H6 ρ6 := ⟨S6, E6, k6⟩
    obtain ⟨Hf7, B7, d7⟩ := B6.frz E5 R6 e5
    obtain ⟨f1, f2, f3, ⟨us, f4, f6⟩, f5, _⟩ := fin (B5.trans B7)
    have lu : us.length = done.length := dps_len f6
    have st := Step.at (o := .lst (us ++ [y])) f2.ff f5
    rw [List.length_append, List.length_singleton] at hz
    refine ⟨us, f4, by rw [← line_eq, lu]; omega, hN Hf7 _ ⟨⟨us ++ [y], upd_same, dps_app f6 (.cons d7 .nil)⟩, by rw [List.length_append, List.length_singleton]; exact hz, f5, f1.trans st fun p hp => by rw [hp]; exact hOD, f2.step st fun p hp z => ?_, f3⟩⟩
    rw [z] at hp
    exact nD1 (own_wipe f3 hp)
theorem wipeE_get? (ρ : Env) (vs : List Nat) (j : Nat) : (Py.wipe ρ vs)[j]? = if j ∈ vs ∧ j < ρ.length then some none else ρ[j]? := by
  induction vs with
  | nil => simp [Py.wipe]
  | cons v vs ih =>
    unfold Py.wipe
    by_cases h : v = j
    · subst h
      by_cases hl : v < ρ.length
      · rw [List.getElem?_set_self (by rw [wipe_len]; exact hl)]; simp [hl]
      · rw [List.getElem?_eq_none (by rw [List.length_set, wipe_len]; omega)]; simp [hl]
    · rw [List.getElem?_set_ne h, ih]
      simp [Ne.symm h]
/-- the inner clause -/
theorem lc_inner {g : TG} {mg : MG} {tt : TT} {te : TE} {t : MT} {e : M} {vs : List Nat} {D : Addr} {done ys : List PV} {xs : List PV} {J : It} {ρ3 : Env} (hO : ∀ p, Own (Py.wipe ρ1 vs) (L2.wipe σ vs) p → O p) (hOD : O D ∨ H1 D = none) (nD1 : ¬ Own (Py.wipe ρ1 vs) (L2.wipe σ vs) D)
    (hg : SG K g mg) (hv : TgIn g mg vs) (ht : ST K tt t) (he : SE K te e) (len1 : ρ1.length = σ.length) (hz : (done ++ ys).length ≤ line) (L : LcO K O Hf1 H1 ρ1 σ vs D done ρ1 Hf1 H1)
    (w : Walk K J xs O Hf1 H1) (hm : lcF (lcTurn mg vs t e) xs ρ1 = some (ys, ρ3)) {Nx : Hp → Prop} (hN : ∀ Hf3 H3, LcO K O Hf1 H1 ρ1 σ vs D (done ++ ys) ρ3 Hf3 H3 → Nx H3) :
    ∃ W1 : Nat → Nat → Hp → Prop, (∃ m, W1 0 m H1) ∧ ∀ j k H, W1 j k H →
      (J.stop j H ∧ Nx H) ∨ (J.go j H ∧ ∃ Nx1 : Hp → Prop, (∀ H', Nx1 H' → ∃ k', k' < k ∧ W1 (j + 1) k' H') ∧ ∀ x H', J.yld j H x H' → g x (L2.wipe σ vs) H' fun σ3 H5 => L2.wipe σ3 vs = L2.wipe σ vs ∧ tt σ3 H5 fun b H6 =>
        if b = true then te σ3 H6 fun y H7 => ∃ acc, H7 D = some (.lst acc) ∧ acc.length < sizeLine ∧ Nx1 (upd H7 D (.lst (acc ++ [y]))) else Nx1 H6) := by
  refine ⟨fun j k H2 => k = xs.length - j ∧ j ≤ xs.length ∧ ∃ ρ2 Hf2 mid rest, lcF (lcTurn mg vs t e) (xs.drop j) ρ2 = some (rest, ρ3) ∧ ys = mid ++ rest ∧ LcO K O Hf1 H1 ρ1 σ vs D (done ++ mid) ρ2 Hf2 H2,
    ⟨_, rfl, Nat.zero_le _, ρ1, Hf1, [], ys, hm, rfl, by rw [List.append_nil]; exact L⟩, ?_⟩
  rintro j k H2 ⟨rfl, hj', ρ2, Hf2, mid, rest, h1, rfl, L2⟩
  obtain ⟨w1, w2⟩ := w Hf2 H2 L2.st j
  cases hd : xs.drop j with
  | nil =>
    rw [hd] at h1
    cases h1
    have hle : xs.length ≤ j := by
      have := congrArg List.length hd
      rw [List.length_drop, List.length_nil] at this
      omega
    rw [List.append_nil] at hN
    exact .inl ⟨w2 hle, hN _ _ L2⟩
  | cons x xr =>
    rw [hd] at h1
    obtain ⟨hx, hr⟩ := drop_get hd
    have hlt : j < xs.length := (List.getElem?_eq_some_iff.mp hx).1
    obtain ⟨go, yl⟩ := w1 x hx
    obtain ⟨zs, ρ4, rs, t1, t2, t3⟩ := lcF_some h1
    have t3' : rest = zs ++ rs := t3
    subst t3'
    refine .inr ⟨go, fun H' => ∃ Hf3, LcO K O Hf1 H1 ρ1 σ vs D (done ++ (mid ++ zs)) ρ4 Hf3 H', fun H' ⟨Hf3, L3⟩ => ⟨_, by omega, rfl, hlt, ρ4, Hf3, mid ++ zs, rs, by rw [hr]; exact t2, by rw [List.append_assoc], L3⟩, fun u H3 hy => ?_⟩
    obtain ⟨rfl, du⟩ := yl u H3 hy
    exact lc_turnO hO hOD nD1 hg hv ht he len1 (by simp only [List.length_append] at hz ⊢; omega) L2 du t1 fun Hf3 H4 L3 => ⟨Hf3, by rw [← List.append_assoc]; exact L3⟩
theorem se_lc2 {wi : TI} {g : TG} {tt : TT} {wi1 : TI} {g1 : TG} {tt1 : TT} {te : TE} {it it1 : MI} {mg mg1 : MG} {t t1 : MT} {e : M} (vs vs1 : List Nat) (hvs : ∀ i ∈ vs1, i ∈ vs) (hi : SI K wi it) (hg : SG K g mg) (hv : TgIn g mg vs) (ht : ST K tt t)
    (hi1 : SI2 K wi1 it1) (hg1 : SG K g1 mg1) (hv1 : TgIn g1 mg1 vs1) (ht1 : ST K tt1 t1) (he : SE K te e) : SE K (tLc2 wi g tt wi1 g1 tt1 te vs vs1) (mLc2 it mg vs t it1 mg1 vs1 t1 e) := by
  intro ρ r ρ' σ Hf H hm E Q q
  simp only [mLc2, Option.bind_eq_some_iff] at hm
  obtain ⟨⟨xs, ρ1⟩, e1, e2⟩ := hm
  split at e2
  case isFalse => cases e2
  rename_i hz
  simp only [Option.bind_eq_some_iff] at e2
  obtain ⟨⟨total, ρe⟩, e3, e4⟩ := e2
  split at e4
  case isFalse => cases e4
  rename_i hz2
  cases e4
  dsimp only at hz2
  refine hi ρ xs ρ1 σ Hf H e1 E _ fun J Hf1 H1 B1 w => ?_
  intro D hD
  have fD : Hf1 D = none := by
    cases z : Hf1 D with
    | none => rfl
    | some o => have := B1.en.ff D o z; rw [hD] at this; cases this
  have st0 := Step.at (o := .lst []) B1.en.ff fD
  have wsub : ∀ p, Own (Py.wipe ρ1 vs) (L2.wipe σ vs) p → Own ρ1 σ p := fun p ⟨j, a, b⟩ => by
    rw [get_wipe] at a
    rw [slot_wipe] at b
    by_cases hj : j ∈ vs
    · rw [if_pos hj] at a; cases a
    · rw [if_neg hj] at a b; exact ⟨j, a, b⟩
  have nD1 : ¬ Own (Py.wipe ρ1 vs) (L2.wipe σ vs) D := fun h => by
    obtain ⟨⟨o, ho⟩, _⟩ := B1.en.there (wsub D h)
    rw [hD] at ho; cases ho
  refine ⟨fun i m H2 => m = xs.length - i ∧ i ≤ xs.length ∧ ∃ ρ2 Hf2 done rest, lcF (lcTurn2 mg vs t it1 mg1 vs1 t1 e) (xs.drop i) ρ2 = some (rest, ρe) ∧ total = done ++ rest ∧ LcO K (Own (Py.wipe ρ1 vs) (L2.wipe σ vs)) Hf1 H1 ρ1 σ vs D done ρ2 Hf2 H2,
    ⟨_, rfl, Nat.zero_le _, ρ1, Hf1, [], total, e3, rfl, ⟨⟨[], upd_same, .nil⟩, Nat.zero_le _, fD, st0.weak fun p hp => .inr (by rw [hp]; exact hD), ?_, rfl, fun j _ => ⟨id, rfl⟩⟩⟩, ?_⟩
  · refine (B1.en.wipe vs).step st0 fun p hp z => ?_
    obtain ⟨⟨o, ho⟩, _⟩ := B1.en.there (wsub p hp)
    rw [z, hD] at ho; cases ho
  · rintro i m H2 ⟨rfl, hi', ρ2, Hf2, done, rest, h1, rfl, L⟩
    obtain ⟨w1, w2⟩ := w Hf2 H2 (L.st.weak fun p hp => .inl (wsub p hp)) i
    cases hd : xs.drop i with
    | nil =>
      rw [hd] at h1
      cases h1
      have hle : xs.length ≤ i := by
        have := congrArg List.length hd
        rw [List.length_drop, List.length_nil] at this
        omega
      refine .inl ⟨w2 hle, ?_⟩
      obtain ⟨Be, Re⟩ := lc_end B1.en hD (⟨L.acc, L.few, L.fd, L.st, L.en, L.nm⟩ : LcS K Hf1 H1 ρ1 σ vs D line done _ Hf2 H2)
      rw [List.append_nil] at q
      have B := B1.trans Be
      exact q _ Hf2 H2 B.st B.en (Re.back fun p hp => B1.fresh hp) B.kp
    | cons x xr =>
      rw [hd] at h1
      obtain ⟨hx, hr⟩ := drop_get hd
      have hlt : i < xs.length := (List.getElem?_eq_some_iff.mp hx).1
      obtain ⟨go, yl⟩ := w1 x hx
      obtain ⟨ys, ρ3, zs, u1, u2, u3⟩ := lcF_some h1
      have u3' : rest = ys ++ zs := u3
      subst u3'
      refine .inr ⟨go, fun H' => ∃ Hf3, LcO K (Own (Py.wipe ρ1 vs) (L2.wipe σ vs)) Hf1 H1 ρ1 σ vs D (done ++ ys) ρ3 Hf3 H', fun H' ⟨Hf3, L3⟩ => ⟨_, by omega, rfl, hlt, ρ3, Hf3, done ++ ys, zs, by rw [hr]; exact u2, by rw [List.append_assoc], L3⟩, fun u H3 hy => ?_⟩
      obtain ⟨rfl, du⟩ := yl u H3 hy
      have hlen : (done ++ ys).length ≤ line := by simp only [List.length_append] at hz2 ⊢; omega
      simp only [lcTurn2, Option.bind_eq_some_iff] at u1
      obtain ⟨ρ4, a1, ⟨b, ρ5⟩, a2, a3⟩ := u1
      refine lc_tg (fun p h => h) nD1 hg hv B1.en.len L du a1 fun σ4 Hf4 w4 E4 fin => ?_
      refine ht ρ4 b ρ5 σ4 Hf4 H3 a2 E4 _ fun Hf5 H5 S5 E5 k5 => ?_
      have B5 : Bh K Hf4 H3 ρ4 σ4 Hf5 H5 ρ5 := ⟨S5, E5, k5⟩
      cases b with
      | false =>
        simp only [Bool.false_eq_true, if_false] at a3 ⊢
        cases a3
        obtain ⟨f1, f2, f3, f4, f5, f6⟩ := fin B5
        exact ⟨Hf5, by rw [List.append_nil]; exact ⟨f4, L.few, f5, f1, f2, f3⟩⟩
      | true =>
        simp only [if_true, Option.bind_eq_some_iff] at a3 ⊢
        obtain ⟨⟨xs1, ρ6⟩, a4, a5⟩ := a3
        split at a5
        case isFalse => cases a5
        obtain ⟨_, _, _, ⟨us5, f45, _⟩, _, _⟩ := fin B5
        refine hi1 ρ5 xs1 ρ6 σ4 Hf5 H5 a4 E5 _ fun J1 Hf6 H6 B6 wk => ?_
        obtain ⟨f1, f2, f3, f4, f5, f6, own6⟩ := fin (B5.trans B6)
        have wsub1 : ∀ p, Own (Py.wipe ρ6 vs1) (L2.wipe σ4 vs1) p → Own ρ6 σ4 p := fun p ⟨j, a, b⟩ => by
          rw [get_wipe] at a
          rw [slot_wipe] at b
          by_cases hj : j ∈ vs1
          · rw [if_pos hj] at a; cases a
          · rw [if_neg hj] at a b; exact ⟨j, a, b⟩
        have nD6 : ¬ Own (Py.wipe ρ6 vs1) (L2.wipe σ4 vs1) D := fun h => f6 (wsub1 D h)
        refine lc_inner (O := fun p => Own (Py.wipe ρ6 vs1) (L2.wipe σ4 vs1) p ∨ p = D) (fun p h => .inl h) (.inl (.inr rfl)) nD6 hg1 hv1 ht1 he B6.en.len hlen ⟨f4, L.few, f5, .refl B6.en.ff, B6.en.wipe vs1, rfl, fun j _ => ⟨id, rfl⟩⟩ (wk _ ?_) a5 fun Hf7 H7 L7 => ?_
        · rintro p (h | rfl)
          · exact B6.no E5 p (wsub1 p h)
          · rw [f45]; exact fun z => nomatch z
        · refine ⟨Hf7, ⟨L7.acc, L7.few, L7.fd, ?_, ?_, ?_⟩⟩
          · refine f1.trans L7.st fun p hp => ?_
            rcases hp with hp | rfl
            · exact own6 p (wsub1 p hp)
            · exact .inr hD
          · have h1 := L7.en.wipe vs
            have h2 : Py.wipe (Py.wipe ρ3 vs1) vs = Py.wipe ρ3 vs := by
              apply List.ext_getElem?
              intro j
              rw [wipeE_get?, wipeE_get?, wipe_len, wipeE_get?]
              by_cases hj : j ∈ vs ∧ j < ρ3.length
              · simp [hj]
              · rw [if_neg hj, if_neg hj, if_neg fun z => hj ⟨hvs j z.1, z.2⟩]
            have h3 : L2.wipe (L2.wipe σ4 vs1) vs = L2.wipe σ vs := by
              rw [← w4]
              apply List.ext_getElem?
              intro j
              rw [wipe_get?, wipe_get?, wipe_length, wipe_get?]
              by_cases hj : j ∈ vs ∧ j < σ4.length
              · simp [hj]
              · rw [if_neg hj, if_neg hj, if_neg fun z => hj ⟨hvs j z.1, z.2⟩]
            rw [h2, h3] at h1
            exact h1
          · refine ⟨L7.nm.1.trans f3.1, fun j hj => ?_⟩
            have n1 := L7.nm.2 j fun z => hj (hvs j z)
            have n2 := f3.2 j hj
            exact ⟨fun h => n2.1 (n1.1 h), n1.2.trans n2.2⟩
def rI2 (K : PySem.W.Frag) (m : MI) : TI := fun σ H R => ∃ (ρ : Env) (xs : List PV) (ρ' : Env) (Hf : Hp), m ρ = some (xs, ρ') ∧ RepE K Hf H ρ σ ∧ ∀ J Hf' H', Bh K Hf H ρ σ Hf' H' ρ' → (∀ O : Addr → Prop, (∀ p, O p → H p ≠ none) → Walk K J xs O Hf' H') → R J H'
theorem si_rI2 {m : MI} : SI2 K (rI2 K m) m := fun ρ xs ρ' σ Hf H hm E R q => ⟨ρ, xs, ρ', Hf, hm, E, q⟩
theorem BI2.can {X : Cx} {tg e : Expr} {m : MI} (h : BI2 X tg e m) : PI X tg e (rI2 X.K m) := by
  obtain ⟨te, h1, h2⟩ := h
  exact ⟨fun pins s σ H R I ⟨ρ, xs, ρ', Hf, hm, E, q⟩ => h1.run pins s σ H R I (h2 ρ xs ρ' σ Hf H hm E R q)⟩
theorem bi2_seq {tg e : Expr} {m : M} (h : BE X e m) : BI2 X tg e (iSeq m) := let ⟨t, a1, a2⟩ := h; ⟨_, pi_sq a1, si2_seq a2⟩
end
section
variable {X : Cx} {elt iter iter1 : Expr} {ifs ifs1 : List Expr} {scope : Scope} {pos : Pos} {mi mi1 : MI} {mt mt1 : MT} {me : M} {x x1 y : Str} {p p1 : Pos}
/-- [elt for x in iter if .. for x1 in iter1 if ..] -/
theorem be_lc2N (i i1 : Nat) (own : List (Str × Nat)) (hc : X.calm = true) (hN : X.N.Nodup) (hi : BI X (.Name x p) iter mi) (ok : blkC X.N X.env.scope scope own = true) (hm : i ∈ own.map (·.2) ∧ i1 ∈ own.map (·.2))
    (hg : ∀ (s : Shared) (H : Hp) (C : Addr) (cl : List (Str × Addr)) (fp : List Addr), PG (X.blk s H scope (compEnvC scope cl C X.env) fp) (.Name x p) (L2.gName i))
    (ht : ∀ (s : Shared) (H : Hp) (C : Addr) (cl : List (Str × Addr)) (fp : List Addr), BTs (X.blk s H scope (compEnvC scope cl C X.env) fp) ifs mt)
    (hi1 : ∀ (s : Shared) (H : Hp) (C : Addr) (cl : List (Str × Addr)) (fp : List Addr), BI2 (X.blk s H scope (compEnvC scope cl C X.env) fp) (.Name x1 p1) iter1 mi1)
    (hg1 : ∀ (s : Shared) (H : Hp) (C : Addr) (cl : List (Str × Addr)) (fp : List Addr), PG (X.blk s H scope (compEnvC scope cl C X.env) fp) (.Name x1 p1) (L2.gName i1))
    (ht1 : ∀ (s : Shared) (H : Hp) (C : Addr) (cl : List (Str × Addr)) (fp : List Addr), BTs (X.blk s H scope (compEnvC scope cl C X.env) fp) ifs1 mt1)
    (he : ∀ (s : Shared) (H : Hp) (C : Addr) (cl : List (Str × Addr)) (fp : List Addr), BE (X.blk s H scope (compEnvC scope cl C X.env) fp) elt me)
    (hs : ∀ x, foldedSetIterable iter X.env x = pure x := by intro _; rfl) (hs1 : ∀ env x, foldedSetIterable iter1 env x = pure x := by intro _ _; rfl) :
    BE X (.ListComp elt [⟨.Name x p, iter, ifs, 0⟩, ⟨.Name x1 p1, iter1, ifs1, 0⟩] scope pos) (mLc2 mi (Py.gName i) (own.map (·.2)) mt mi1 (Py.gName i1) [i1] mt1 me) := by
  obtain ⟨wi, h1, h2⟩ := hi
  have hv1 : ∀ j ∈ [i1], j ∈ own.map (·.2) := fun j hj => by rw [List.mem_singleton.mp hj]; exact hm.2
  exact ⟨_, pe_lc2 hc hN h1 (blkOk_by ok) hv1 hg (fun s H C cl fp => (ht s H C cl fp).can) (fun s H C cl fp => (hi1 s H C cl fp).can) hg1 (fun s H C cl fp => (ht1 s H C cl fp).can) (fun s H C cl fp => (he s H C cl fp).can) hs hs1,
    se_lc2 _ _ hv1 h2 (sg_name i) (tgIn_name hm.1) st_rT si_rI2 (sg_name i1) (tgIn_name (List.mem_singleton.mpr rfl)) st_rT se_rE⟩
end
end Py
/-! PyI0: more of dicts. -/
namespace Py
open PySem
/-- {k: v} of ints -/
def mDctC (kvs : List (Int × Int)) : M := fun ρ => some (.new (.dct (kvs.map fun p => (.inl p.1, .int p.2))), ρ)
def isDct : Ct → Bool
  | .ob (.dct _) => true
  | _ => false
/-- d.get(k, v) -/
def mDgetD (d k v : M) : M := fun ρ => (d ρ).bind fun x => (look x.1 x.2).bind fun c0 => if isDct c0 = true then (k x.2).bind fun y => (look y.1 y.2).bind fun ck => (keyC ck).bind fun key => (v y.2).bind fun z => (look x.1 z.2).bind fun c => match c, z.1 with
  | .ob (.dct kvs), .val w => some (.val ((dGet kvs key).getD w), z.2)
  | _, _ => none
  else none
def keyPV : Key → PV
  | .inl i => .int i
  | .inr s => .str s
/-- the keys of a locked dict -/
def iKeysL (i : Nat) : MI := fun ρ => match get ρ i with
  | some (.lck kvs) => some (kvs.map fun kv => keyPV kv.1, ρ)
  | _ => none
def lockE (ρ : Env) (i : Nat) : Option Env := match get ρ i with
  | some (.own (.dct kvs)) => some (ρ.set i (some (.lck kvs)))
  | some (.ref (.dct kvs)) => some (ρ.set i (some (.lck kvs)))
  | _ => none
/-- as it was ahead: a name's own, or a caller's -/
def unlockE (ρ0 : Env) (ρ : Env) (i : Nat) : Option Env := match get ρ i, get ρ0 i with
  | some (.lck kvs), some (.own _) => some (ρ.set i (some (.own (.dct kvs))))
  | some (.lck kvs), some (.ref _) => some (ρ.set i (some (.ref (.dct kvs))))
  | _, _ => none
/-- s runs while the dict of a name is not changed -/
def sLock (i : Nat) (s : SM) : SM := fun ρ => (lockE ρ i).bind fun ρ1 => (s ρ1).bind fun y => (unlockE ρ y.2 i).map fun ρ2 => (y.1, ρ2)
def intK : Key → Option Int
  | .inl i => some i
  | _ => none
/-- sorted(d), ints -/
def fSortedD : Ct → Option R
  | .ob (.dct kvs) => (kvs.mapM fun kv => intK kv.1).map fun ns => .new (.lst ((isort ns).map .int))
  | _ => none
/-- a = b, a dict that b does not hold behind it -/
def sMove (i j : Nat) : SM := fun ρ => match get ρ j with
  | some (.own (.dct kvs)) => (put i (some (.own (.dct kvs))) (ρ.set j none)).map fun ρ' => (.nx, ρ')
  | _ => none
def newOb : R → Option Ob
  | .new o => some o
  | _ => none
def fCountI : Ct → Ct → Option R
  | c, .pv (.int k) => c.lst?.bind fun xs => (ints? xs).map fun ns => .val (.int (ns.count k : Nat))
  | _, _ => none
/-- xs.count(e) -/
def mCount (a b : M) : M := fun ρ => (a ρ).bind fun x => (look x.1 x.2).bind fun c0 => c0.lst?.bind fun _ => (b x.2).bind fun y => (look x.1 y.2).bind fun cx => (look y.1 y.2).bind fun cy => (fCountI cx cy).map fun z => (z, y.2)
/-- a, b = two new objects -/
def sParN (i j : Nat) (a b : M) : SM := fun ρ => (a ρ).bind fun x => (newOb x.1).bind fun o => (b x.2).bind fun y => (newOb y.1).bind fun o2 =>
  (put i (some (.own o)) y.2).bind fun ρ1 => (put j (some (.own o2)) ρ1).map fun ρ2 => (.nx, ρ2)
/-- dict(xs) of a list of pairs -/
def pairK? : PV → Option (Key × PV)
  | .tuple [k, v] => (keyOf k).map fun key => (key, v)
  | _ => none
def dMerge (kvs more : List (Key × PV)) : List (Key × PV) := more.foldl (fun acc kv => dPut acc kv.1 kv.2) kvs
def fDictL (c : Ct) : Option R := c.lst?.bind fun xs => (xs.mapM pairK?).map fun kvs => .new (.dct (dMerge [] kvs))
end Py
/-! PyI: more of dicts. -/
namespace Py
open PySem PySem.Spec PyProof.Rows L2
def del (H : Hp) (p : Addr) : Hp := fun a => if a = p then none else H a
theorem del_ne {H : Hp} {a p : Addr} (h : a ≠ p) : del H p a = H a := if_neg h
section
variable {K : PySem.W.Frag} {H : Hp} {p : Addr} {od : Obj} {ws : List (Key × V)}
theorem del_l (h : H p = some (.frz od (.dK ws))) {a : Addr} {xs : List V} (s : SqL K H a xs) : SqL K (del H p) a xs := by
  rcases s with s | s
  · left
    have ne : a ≠ p := by
      rintro rfl
      rcases s with s | ⟨o, s⟩
      · rw [h] at s; cases s
      · rw [h] at s; cases s
    rcases s with s | ⟨o, s⟩
    · exact .inl (by rw [del_ne ne]; exact s)
    · exact .inr ⟨o, by rw [del_ne ne]; exact s⟩
  · exact .inr s
theorem del_t (h : H p = some (.frz od (.dK ws))) {a : Addr} {xs : List V} (s : SqT K H a xs) : SqT K (del H p) a xs := by
  rcases s with s | s
  · left
    have ne : a ≠ p := by
      rintro rfl
      rcases s with s | ⟨o, s⟩
      · rw [h] at s; cases s
      · rw [h] at s; cases s
    rcases s with s | ⟨o, s⟩
    · exact .inl (by rw [del_ne ne]; exact s)
    · exact .inr ⟨o, by rw [del_ne ne]; exact s⟩
  · exact .inr s
mutual
theorem dp_del (e : H p = some (.frz od (.dK ws))) : ∀ (d : PyData) (v : V), Dp K H v d → Dp K (del H p) v d
  | .none, _, h => by cases h; exact .non
  | .bool b, _, h => by cases h; exact .bl b
  | .int i, _, h => by cases h; exact .int i
  | .str x, _, h => by cases h; exact .str x
  | .list ds, _, h => by
    cases h with
    | lst hs ha => exact .lst (del_l e hs) (dps_del e ds _ ha)
  | .tuple ds, _, h => by
    cases h with
    | tup hs ha => exact .tup (del_t e hs) (dps_del e ds _ ha)
  | .dict _, _, h => by cases h
theorem dps_del (e : H p = some (.frz od (.dK ws))) : ∀ (ds : List PyData) (vs : List V), DpAll K H vs ds → DpAll K (del H p) vs ds
  | [], _, h => by cases h; exact .nil
  | d :: ds, _, h => by
    cases h with
    | cons h1 h2 => exact .cons (dp_del e d _ h1) (dps_del e ds _ h2)
end
end
section
variable {K : PySem.W.Frag} {Hf H Hf' H' Hf1 H1 Hf2 H2 H0 : Hp} {ρ ρ' ρ1 ρ2 : Env} {σ σ' σ1 σ2 : L2.St} {O O' O1 : Addr → Prop} {X : Cx}
end
end Py
/-! PyJ: more of dicts, in the text. -/
namespace L2
open PySem PySem.Spec PyProof.Rows
section
variable {X : Cx}
end
end L2
namespace Py
open PySem PySem.Spec PyProof.Rows L2
section
variable {K : PySem.W.Frag} {Hf H Hf' H' Hf1 H1 Hf2 H2 H0 : Hp} {ρ ρ' ρ1 ρ2 : Env} {σ σ' σ1 σ2 : L2.St} {O O' O1 : Addr → Prop} {X : Cx}
end
section
variable {X : Cx} {a b e f : Expr} {ma mb me mf : M} {x y : Str} {p p' apos pos pos' : Pos} {st : Stmt} {m : SM}
end
section
variable {X : Cx} {x y : Str} {p p' pos : Pos}
end
end Py
/-! PyKp: sorted(set(a)), pure. -/
namespace Py
open PySem
/-- each one once -/
def nub : List Int → List Int
  | [] => []
  | x :: xs => if x ∈ xs then nub xs else x :: nub xs
def sset (ns : List Int) : List Int := isort (nub ns)
def seqV? : Ct → Option (List PV)
  | .pv (.tuple xs) => some xs
  | c => c.lst?
def fSSet (c : Ct) : Option R := (seqV? c).bind fun xs => (ints? xs).bind fun ns => if ns.length ≤ 4000 then some (.new (.lst ((sset ns).map .int))) else none
end Py
namespace L2
open PySem PySem.Spec PyProof.Rows
section
variable {P : Program} {w : World} {A : Around} {E : Value → Shared → Prop} {s : Shared}
set_option maxRecDepth 100000 in
set_option maxHeartbeats 3200000 in
end
end L2
namespace L2
open PySem PySem.Spec PyProof.Rows
section
variable {X : Cx}
/-- sorted(set(a)), a list or a tuple of ints -/
def tSSetI (K : PySem.W.Frag) (ta : TE) : TE := fun σ H Q => ta σ H fun x H1 => ∃ (l : Addr) (ns : List Int), x = V.ref l ∧ (SqL K H1 l (ns.map V.int) ∨ SqT K H1 l (ns.map V.int)) ∧ ns.length ≤ 4000 ∧
  ∀ (ys : List Int) (p : Addr), ys.Pairwise (· < ·) → (∀ k, k ∈ ys ↔ k ∈ ns) → H1 p = none → Q (.ref p) (upd H1 p (.lst (ys.map V.int)))
end
end L2
/-! PyK: sorted(set(a)). -/
namespace Py
open PySem PySem.Spec PyProof.Rows L2
section
variable {K : PySem.W.Frag} {Hf H : Hp} {X : Cx} {a : Expr} {ma : M} {p p2 q pos : Pos}
def rSSet (K : PySem.W.Frag) (x : V) (H1 : Hp) (Q : VK) : Prop := ∃ (l : Addr) (ns : List Int), x = V.ref l ∧ (SqL K H1 l (ns.map V.int) ∨ SqT K H1 l (ns.map V.int)) ∧ ns.length ≤ 4000 ∧
  ∀ (ys : List Int) (p : Addr), ys.Pairwise (· < ·) → (∀ k, k ∈ ys ↔ k ∈ ns) → H1 p = none → Q (.ref p) (upd H1 p (.lst (ys.map V.int)))
end
end Py
/-! PyL0: a comprehension over a name's own list, or a lent one, which the body does not see. -/
namespace Py
open PySem
def mLcH (k : Nat) (g : MG) (vs : List Nat) (t : MT) (e : M) : M := fun ρ => (lstAt ρ k).bind fun xs =>
  (mLc (iSeq (mC (.list xs))) g vs t e (ρ.set k none)).map fun y => (y.1, y.2.set k (get ρ k))
end Py
/-! PyL: a comprehension over a name's own list, or a lent one. -/
namespace Py
open PySem PySem.Spec PyProof.Rows L2
section
variable {K : PySem.W.Frag} {Hf H : Hp} {ρ : Env} {σ : L2.St}
end
section
variable {X : Cx} {elt tg : Expr} {ifs : List Expr} {scope : Scope} {pos : Pos} {mt : MT} {me : M} {x y : Str} {p py : Pos}
end
end Py
/-! PyM0: a, b, c = a list. -/
namespace Py
open PySem
/-- a, b = t (a list) -/
def gLst (is : List Nat) : MG := fun r ρ => match r with
  | .val (.list xs) => gNames is xs ρ
  | _ => none
end Py
/-! PyM: a, b, c = a list; a, b, c = x, y, z. -/
namespace Py
open PySem PySem.Spec PyProof.Rows L2
section
variable {K : PySem.W.Frag} {Hf H : Hp} {ρ : Env} {σ : L2.St}
end
section
variable {X : Cx}
end
end Py
/-! PyN0: sorted, of pairs of an int and a tuple of ints. -/
namespace Py
open PySem
def pairI? : PV → Option (Int × List Int)
  | .tuple [.int n, .tuple xs] => (ints? xs).map fun ns => (n, ns)
  | _ => none
def pairV (p : Int × List Int) : PV := .tuple [.int p.1, tupV p.2]
def pairLe (p q : Int × List Int) : Bool := !decide (q.1 < p.1 ∨ (q.1 = p.1 ∧ q.2 < p.2))
def fSortedP (c : Ct) : Option R := c.lst?.bind fun xs => (xs.mapM pairI?).map fun ps => .new (.lst ((ps.mergeSort pairLe).map pairV))
/-- tuple(range(n)) -/
def mTupR1 (a : M) : M := fun ρ => (a ρ).bind fun x => (look x.1 x.2).bind fun c => (intOf c).bind fun n => if n ≤ line ∧ -(2 ^ 62) ≤ n then some (.val (.tuple (rangeL 0 n.toNat)), x.2) else none
end Py
/-! PyN: sorted, of pairs of an int and a tuple of ints; xs += ys. -/
namespace Py
open PySem PySem.Spec PyProof.Rows L2
section
theorem alike_pair (p q : Int × List Int) : PySem.W.alike (pairV p) (pairV q) = true := by
  unfold pairV tupV
  simp [PySem.W.alike, PySem.W.alikeAll, PySem.W.alike_ints]
theorem eqv_ints : ∀ xs ys : List Int, PyData.eqvAll (xs.map .int) (ys.map .int) = true → xs = ys := by
  intro xs
  induction xs with
  | nil => intro ys h; cases ys with
    | nil => rfl
    | cons y ys => simp [PyData.eqvAll] at h
  | cons x xs ih => intro ys h; cases ys with
    | nil => simp [PyData.eqvAll] at h
    | cons y ys =>
      rw [List.map_cons, List.map_cons, PyData.eqvAll, Bool.and_eq_true] at h
      have h1 : x = y := by simpa [PyData.eqv] using h.1
      rw [h1, ih ys h.2]
theorem le_pair (p q : Int × List Int) : PySem.W.dataLe false pairV p q = pairLe p q := by
  rw [PySem.W.dataLe_eq]
  unfold pairLe
  show (!PySem.W.dataLt (pairV q) (pairV p)) = _
  congr 1
  unfold pairV tupV
  rw [PySem.W.dataLt_pair (by simp [PySem.W.alike]) (by simp [PySem.W.alike, PySem.W.alike_ints])]
  rw [PySem.W.dataLt_tuple, PySem.W.dataLt_int]
  show (if _ then (if _ then false else PySem.W.rowLt _ _) else _) = _
  rw [PySem.W.dataLt_ints]
  have e1 : PyData.eqv (.int q.1) (.int p.1) = decide (q.1 = p.1) := by
    by_cases h : q.1 = p.1
    · simp [PyData.eqv, h]
    · simp [PyData.eqv, h]
  have e2 : PyData.eqv (.tuple (q.2.map .int)) (.tuple (p.2.map .int)) = decide (q.2 = p.2) := by
    by_cases h : q.2 = p.2
    · rw [h, decide_eq_true rfl]
      exact PySem.W.eqv_refl_alike _ (by simp [PySem.W.alike, PySem.W.alike_ints])
    · rw [decide_eq_false h]
      cases z : PyData.eqv (.tuple (q.2.map .int)) (.tuple (p.2.map .int)) with
      | false => rfl
      | true => exact absurd (eqv_ints _ _ (by simpa [PyData.eqv] using z)) h
  rw [e1, e2]
  by_cases h : q.1 = p.1
  · rw [if_pos (decide_eq_true h)]
    by_cases h2 : q.2 = p.2
    · rw [if_pos (decide_eq_true h2), h, h2]
      exact (decide_eq_false (by rintro (z | ⟨_, z⟩); · omega
                                 · exact List.lt_irrefl _ z)).symm
    · rw [if_neg (by simp [h2])]
      simp [h]
  · rw [if_neg (by simp [h])]
    simp [h]
end
section
variable {K : PySem.W.Frag} {Hf H : Hp} {X : Cx}
def rSortP (K : PySem.W.Frag) : List V → Hp → VK → Prop := fun vs H Q => ∃ (a : Addr) (xs : List V) (ps : List (Int × List Int)), vs = [V.ref a] ∧ SqL K H a xs ∧ ∃ Hf, Ex Hf H ∧ DpAll K Hf xs (ps.map pairV) ∧
  ∀ (ys : List V) (p : Addr), DpAll K Hf ys ((ps.mergeSort pairLe).map pairV) → H p = none → Q (.ref p) (upd H p (.lst ys))
theorem zip_each {xs : List V} {its : List Value} {ps : List (Int × List Int)} (rv : Vals xs its) (d : DpAll K H xs (ps.map pairV)) : PySem.W.EachIs (fun v (b : V × (Int × List Int)) => RelV b.1 v ∧ Dp K H b.1 (pairV b.2)) its (xs.zip ps) := by
  induction rv generalizing ps with
  | nil => exact .nil
  | cons r t ih =>
    cases ps with
    | nil => cases d
    | cons p ps =>
      cases d with
      | cons h1 h2 => exact .cons ⟨r, h1⟩ (ih h2)
theorem each_out {out : List Value} {bs : List (V × (Int × List Int))} (h : PySem.W.EachIs (fun v (b : V × (Int × List Int)) => RelV b.1 v ∧ Dp K H b.1 (pairV b.2)) out bs) : Vals (bs.map (·.1)) out ∧ DpAll K H (bs.map (·.1)) ((bs.map (·.2)).map pairV) := by
  induction h with
  | nil => exact ⟨.nil, .nil⟩
  | cons h t ih => exact ⟨.cons h.1 ih.1, .cons h.2 ih.2⟩
theorem zip_len {xs : List V} : ∀ {ps : List (Int × List Int)}, DpAll K H xs (ps.map pairV) → xs.length = ps.length := fun {ps} d => by
  rw [dps_len d, List.length_map]
theorem cr_sortP (hu : X.A.units + 64 < cLine) : CallR X (.builtin "sorted") (rSortP X.K) := by
  intro pins s σ H vs us Q I r h
  obtain ⟨a, xs, ps, rfl, hs, Hf, ef, d, q⟩ := h
  obtain ⟨its, rv, hl, hz⟩ := I.list hs
  rw [Vals.ref1 r]
  have e := zip_each rv d
  have hxl := zip_len d
  refine PySem.W.sorted_data (vs := its) (bs := xs.zip ps) (enc := fun b => pairV b.2) hl.isList e ?_ ?_ ?_ ?_ ?_ fun out hlen he => ?_
  · refine e.mono fun v b ⟨h1, h2⟩ => Dp.reads I _ _ _ (dp_mono ef _ _ h2) h1
  · exact PySem.W.AllAlike.of fun b b' => alike_pair _ _
  · exact PySem.W.Sortable.tuples fun b => ⟨_, _, rfl⟩
  · rw [List.length_zip, hxl, Nat.min_self, ← hxl]
    exact hz
  · intro b _
    have : (pairV b.2).depth ≤ 2 := by
      unfold pairV tupV
      simp [PyData.depth, PyData.depthAll, PySem.W.depth_ints]
    omega
  · have hle : (xs.zip ps).mergeSort (PySem.W.dataLe false fun b => pairV b.2) = (xs.zip ps).mergeSort fun b b' => pairLe b.2 b'.2 := by
      congr 1
      funext b b'
      rw [← le_pair]
      rfl
    rw [hle] at he
    obtain ⟨o1, o2⟩ := each_out he
    have hm : ((xs.zip ps).mergeSort fun b b' => pairLe b.2 b'.2).map (·.2) = ps.mergeSort pairLe := by
      rw [List.map_mergeSort (s := pairLe) (fun a _ b _ => rfl), List.map_snd_zip (by omega)]
    rw [hm] at o2
    obtain ⟨ep, he'⟩ := PyProof.Rows.sortedAll_at s.heap its out.toArray
    generalize ((xs.zip ps).mergeSort fun b b' => pairLe b.2 b'.2).map (·.1) = ys at o1 o2
    have hyl : ys.length ≤ sizeLine := by
      rw [dps_len o2, List.length_map, List.length_mergeSort, ← hxl]
      exact hz
    exact ⟨.ref _, upd H (s.heap.objs.size + 1) (.lst ys), I.laid (t' := s.toks) (fun _ _ => PyProof.Rows.sortedAll_old) (Nat.le_succ _) ⟨hyl, out, ep, o1, he'⟩, rfl, q _ _ o2 (I.hok.fresh (Nat.le_succ _))⟩
theorem pairI_map {xs : List PV} {ps : List (Int × List Int)} (h : xs.mapM pairI? = some ps) : xs = ps.map pairV := by
  induction xs generalizing ps with
  | nil => cases h; rfl
  | cons x xs ih =>
    simp only [List.mapM_cons, Option.bind_eq_bind, Option.bind_eq_some_iff] at h
    obtain ⟨n, h1, ms, h2, h3⟩ := h
    cases h3
    rw [ih h2]
    unfold pairI? at h1
    split at h1
    · rename_i k ys
      simp only [Option.map_eq_some_iff] at h1
      obtain ⟨ns, e1, rfl⟩ := h1
      rw [ints_mapI e1]
      rfl
    · cases h1
theorem c_sortedP (hu : X.A.units + 64 < cLine) : C1 X (.builtin "sorted") fSortedP := ⟨_, cr_sortP hu, fun Hf H c x z e hc e5 Q q => by
  simp only [fSortedP, Option.bind_eq_some_iff, Option.map_eq_some_iff] at e5
  obtain ⟨xs, h1, ps, h2, rfl⟩ := e5
  obtain ⟨a, us, rfl, hs, d⟩ := lst_ok e hc h1
  rw [pairI_map h2] at d
  exact ⟨a, us, ps, rfl, hs, Hf, e, d, fun ys p h3 hp => newL e h3 q p hp⟩⟩
/-! xs += ys -/
end
end Py
/-! PyS0: lists that stand somewhere, put together. -/
namespace Py
open PySem
def fAddL (c d : Ct) : Option R := c.lst?.bind fun xs => d.lst?.bind fun ys => if xs.length + ys.length ≤ line then some (.new (.lst (xs ++ ys))) else none
end Py
/-! PyS: lists that stand somewhere, put together. -/
namespace Py
open PySem PySem.Spec PyProof.Rows L2
section
variable {X : Cx}
def rCatS (K : PySem.W.Frag) : R2 := fun x y H Q => ∃ l b xs zs, x = .ref l ∧ y = .ref b ∧ SqL K H l xs ∧ SqL K H b zs ∧ xs.length + zs.length ≤ sizeLine ∧ ∀ p, H p = none → Q (.ref p) (upd H p (.lst (xs ++ zs)))
theorem op_catS : OpR X (binaryOp .Add) (rCatS X.K) := by
  intro pins s σ H x y v u Q I rx ry h
  obtain ⟨l, b, xs, zs, rfl, rfl, hL, hB, hz, q⟩ := h
  cases rx
  cases ry
  obtain ⟨its, r, ⟨⟨cls, dd, data, sl⟩, n, ho, hc, _, hd⟩, _⟩ := I.list hL
  obtain ⟨its2, r2, ⟨⟨cls2, dd2, data2, sl2⟩, n2, ho2, hc2, _, hd2⟩, _⟩ := I.list hB
  simp only at hc hd hc2 hd2
  subst hc hd hc2 hd2
  have ea : its.toArray ++ its2.toArray = (its ++ its2).toArray := by simp
  have e1 := r.length
  have e2 := r2.length
  refine concat_meets ⟨_, ho, rfl⟩ ⟨_, ho2, rfl⟩ noFill_list_add seq_list_add PySem.F.slot_list_add PySem.F.entry_list_add (PySem.F.args_list_add_2 _ _) (list_addW l b its.toArray its2.toArray n n2 dd dd2 sl sl2 (by rw [List.size_toArray, List.size_toArray]; omega)) ⟨ho, ho2, ?_⟩
  rw [ea]
  exact ⟨.ref _, _, I.lnew (t' := s.toks) (r.append r2) (by rw [List.length_append]; omega), rfl, q _ I.fresh⟩
theorem addL_S {K : PySem.W.Frag} : OpS K (rCatS K) fAddL := fun Hf H c d x y z e hc hd e5 Q q => by
  unfold fAddL at e5
  simp only [Option.bind_eq_some_iff] at e5
  obtain ⟨xs, h1, ys, h2, e6⟩ := e5
  split at e6
  · rename_i hz
    cases e6
    obtain ⟨a, us, rfl, s1, d1⟩ := lst_ok e hc h1
    obtain ⟨b, ws, rfl, s2, d2⟩ := lst_ok e hd h2
    exact ⟨a, b, us, ws, rfl, rfl, s1, s2, by rw [dps_len d1, dps_len d2, ← line_eq]; exact hz, newL e (dps_app d1 d2) q⟩
  · cases e6
theorem ob_addL : OpB X (binaryOp .Add) fAddL := ⟨_, op_catS, addL_S⟩
end
end Py
/-! Q0: how a meaning is reckoned. -/
namespace Py
open PySem

/-- m, from ρ, gives a and ρ' of which Q holds -/
def Wp {α : Type} (m : Env → Option (α × Env)) (ρ : Env) (Q : α → Env → Prop) : Prop := ∃ a ρ', m ρ = some (a, ρ') ∧ Q a ρ'
/-- a def's value and the objects handed back -/
def Ret (d : Den) (as : List Sl) (Q : R → List Ob → Prop) : Prop := ∃ r os, d as = some (r, os) ∧ Q r os
def FinQ (as : List Sl) (f : Fl) (ρ : Env) (Q : R → List Ob → Prop) : Prop := match f with
  | .nx => ∃ os, outs as ρ = some os ∧ Q (.val .none) os
  | .rt r => ∃ r' os, leave r ρ = some r' ∧ outs as ρ = some os ∧ Q r' os
  | _ => False
section
variable {α : Type} {ρ ρ1 ρ2 : Env} {a b c : M} {t u : MT} {s s1 s2 : SM} {Q : R → Env → Prop} {QT : Bool → Env → Prop} {QS : Fl → Env → Prop} {QL : List PV → Env → Prop} {QA : List Sl → Env → Prop} {f g : Ct → Ct → Option R} {i j : Nat} {v : PV} {l : ML} {n : Nat} {as : List Sl} {QR : R → List Ob → Prop} {d : Den} {x y : R} {cx cy : Ct} {z : R}
theorem Wp.mono {m : Env → Option (α × Env)} {Q Q' : α → Env → Prop} (h : Wp m ρ Q) (k : ∀ a ρ', Q a ρ' → Q' a ρ') : Wp m ρ Q' := let ⟨a, r, e, q⟩ := h; ⟨a, r, e, k a r q⟩
theorem Ret.mono {Q Q' : R → List Ob → Prop} (h : Ret d as Q) (k : ∀ r os, Q r os → Q' r os) : Ret d as Q' := let ⟨a, r, e, q⟩ := h; ⟨a, r, e, k a r q⟩
theorem ret_mk {body : SM} (h : Wp body (startE n as) fun f ρ' => FinQ as f ρ' QR) : Ret (mkDen n body) as QR := by
  obtain ⟨f, ρ', e, q⟩ := h
  cases f with
  | nx => obtain ⟨os, e2, q⟩ := q; exact ⟨_, os, by simp [mkDen, e, e2], q⟩
  | rt r => obtain ⟨r', os, e2, e3, q⟩ := q; exact ⟨r', os, by simp [mkDen, e, e2, e3], q⟩
  | bk => exact q.elim
  | ct => exact q.elim
theorem fin_rt {r r' : R} {os : List Ob} (h1 : leave r ρ = some r') (h2 : outs as ρ = some os) (q : QR r' os) : FinQ as (.rt r) ρ QR := ⟨r', os, h1, h2, q⟩
theorem fin_nx {os : List Ob} (h2 : outs as ρ = some os) (q : QR (.val .none) os) : FinQ as .nx ρ QR := ⟨os, h2, q⟩

theorem wp_c (q : Q (.val v) ρ) : Wp (mC v) ρ Q := ⟨_, _, rfl, q⟩
theorem wp_varV {v : PV} (h : get ρ i = some (.val v)) (q : Q (.val v) ρ) : Wp (mVar i) ρ Q := ⟨_, _, by simp [mVar, h], q⟩
theorem wp_varO {o : Ob} (h : get ρ i = some (.own o)) (q : Q (.bor i) ρ) : Wp (mVar i) ρ Q := ⟨_, _, by simp [mVar, h], q⟩
theorem wp_varR {o : Ob} (h : get ρ i = some (.ref o)) (q : Q (.bor i) ρ) : Wp (mVar i) ρ Q := ⟨_, _, by simp [mVar, h], q⟩
/-- an operation at two results -/
def OpQ (f : Ct → Ct → Option R) (x y : R) (ρ : Env) (Q : R → Env → Prop) : Prop := ∃ cx cy z, look x ρ = some cx ∧ look y ρ = some cy ∧ f cx cy = some z ∧ Q z ρ
theorem opq (h1 : look x ρ = some cx) (h2 : look y ρ = some cy) (h3 : f cx cy = some z) (q : Q z ρ) : OpQ f x y ρ Q := ⟨cx, cy, z, h1, h2, h3, q⟩
theorem wp_op (h : Wp a ρ fun x ρ1 => Wp b ρ1 fun y ρ2 => OpQ f x y ρ2 Q) : Wp (mOp f a b) ρ Q := by
  obtain ⟨x, ρ1, e1, y, ρ2, e2, cx, cy, z, e3, e4, e5, q⟩ := h
  exact ⟨z, ρ2, by simp [mOp, e1, e2, e3, e4, e5], q⟩
def UnQ (f : Ct → Option R) (x : R) (ρ : Env) (Q : R → Env → Prop) : Prop := ∃ cx z, look x ρ = some cx ∧ f cx = some z ∧ Q z ρ
theorem unq {f : Ct → Option R} (h1 : look x ρ = some cx) (h3 : f cx = some z) (q : Q z ρ) : UnQ f x ρ Q := ⟨cx, z, h1, h3, q⟩
theorem wp_un {f : Ct → Option R} (h : Wp a ρ fun x ρ1 => UnQ f x ρ1 Q) : Wp (mUn f a) ρ Q := by
  obtain ⟨x, ρ1, e1, cx, z, e3, e5, q⟩ := h
  exact ⟨z, ρ1, by simp [mUn, e1, e3, e5], q⟩
theorem wp_B (h : Wp a ρ fun x ρ1 => ∃ b, look x ρ1 = some (.pv (.bool b)) ∧ QT b ρ1) : Wp (mB a) ρ QT := by
  obtain ⟨x, ρ1, e1, b, e3, q⟩ := h
  exact ⟨b, ρ1, by simp [mB, e1, e3, boolOf], q⟩
theorem wp_tru (h : Wp a ρ fun x ρ1 => ∃ cx b, look x ρ1 = some cx ∧ truOf cx = some b ∧ QT b ρ1) : Wp (mTru a) ρ QT := by
  obtain ⟨x, ρ1, e1, cx, b, e3, e4, q⟩ := h
  exact ⟨b, ρ1, by simp [mTru, e1, e3, e4], q⟩
theorem wp_and (h : Wp t ρ fun x ρ1 => (x = true → Wp u ρ1 QT) ∧ (x = false → QT false ρ1)) : Wp (mAnd t u) ρ QT := by
  obtain ⟨x, ρ1, e1, h1, h2⟩ := h
  cases x with
  | true => obtain ⟨y, ρ2, e2, q⟩ := h1 rfl; exact ⟨y, ρ2, by simp [mAnd, e1, e2], q⟩
  | false => exact ⟨false, ρ1, by simp [mAnd, e1], h2 rfl⟩
theorem wp_or (h : Wp t ρ fun x ρ1 => (x = true → QT true ρ1) ∧ (x = false → Wp u ρ1 QT)) : Wp (mOr t u) ρ QT := by
  obtain ⟨x, ρ1, e1, h1, h2⟩ := h
  cases x with
  | false => obtain ⟨y, ρ2, e2, q⟩ := h2 rfl; exact ⟨y, ρ2, by simp [mOr, e1, e2], q⟩
  | true => exact ⟨true, ρ1, by simp [mOr, e1], h1 rfl⟩
theorem wp_not (h : Wp t ρ fun x ρ1 => QT (!x) ρ1) : Wp (mNot t) ρ QT := by
  obtain ⟨x, ρ1, e1, q⟩ := h
  exact ⟨!x, ρ1, by simp [mNot, e1], q⟩
theorem wp_andV (h : Wp a ρ fun x ρ1 => ∃ k, look x ρ1 = some (.pv (.bool k)) ∧ (k = true → Wp b ρ1 Q) ∧ (k = false → Q (.val (.bool false)) ρ1)) : Wp (mAndV a b) ρ Q := by
  obtain ⟨x, ρ1, e1, k, e2, h1, h2⟩ := h
  cases k with
  | true => obtain ⟨y, ρ2, e3, q⟩ := h1 rfl; exact ⟨y, ρ2, by simp [mAndV, e1, e2, boolOf, e3], q⟩
  | false => exact ⟨_, ρ1, by simp [mAndV, e1, e2, boolOf], h2 rfl⟩
theorem wp_orV (h : Wp a ρ fun x ρ1 => ∃ k, look x ρ1 = some (.pv (.bool k)) ∧ (k = true → Q (.val (.bool true)) ρ1) ∧ (k = false → Wp b ρ1 Q)) : Wp (mOrV a b) ρ Q := by
  obtain ⟨x, ρ1, e1, k, e2, h1, h2⟩ := h
  cases k with
  | false => obtain ⟨y, ρ2, e3, q⟩ := h2 rfl; exact ⟨y, ρ2, by simp [mOrV, e1, e2, boolOf, e3], q⟩
  | true => exact ⟨_, ρ1, by simp [mOrV, e1, e2, boolOf], h1 rfl⟩
theorem wp_notV (h : Wp a ρ fun x ρ1 => ∃ k, look x ρ1 = some (.pv (.bool k)) ∧ Q (.val (.bool (!k))) ρ1) : Wp (mNotV a) ρ Q := by
  obtain ⟨x, ρ1, e1, k, e2, q⟩ := h
  exact ⟨_, ρ1, by simp [mNotV, e1, e2, boolOf], q⟩
theorem wp_ifE (h : Wp t ρ fun x ρ1 => (x = true → Wp a ρ1 Q) ∧ (x = false → Wp b ρ1 Q)) : Wp (mIfE t a b) ρ Q := by
  obtain ⟨x, ρ1, e1, h1, h2⟩ := h
  cases x with
  | true => obtain ⟨y, ρ2, e2, q⟩ := h1 rfl; exact ⟨y, ρ2, by simp [mIfE, e1, e2], q⟩
  | false => obtain ⟨y, ρ2, e2, q⟩ := h2 rfl; exact ⟨y, ρ2, by simp [mIfE, e1, e2], q⟩
theorem wp_chain (h : Wp a ρ fun x ρ1 => Wp b ρ1 fun y ρ2 => ∃ cx cy k, look x ρ2 = some cx ∧ look y ρ2 = some cy ∧ f cx cy = some (.val (.bool k)) ∧ (k = true → Wp c ρ2 fun w ρ3 => OpQ g y w ρ3 Q) ∧ (k = false → Q (.val (.bool false)) ρ2)) : Wp (mChain f g a b c) ρ Q := by
  obtain ⟨x, ρ1, e1, y, ρ2, e2, cx, cy, k, e3, e4, e5, h1, h2⟩ := h
  cases k with
  | true => obtain ⟨w, ρ3, e6, cy', cw, z, e7, e8, e9, q⟩ := h1 rfl; exact ⟨z, ρ3, by simp [mChain, e1, e2, e3, e4, e5, boolOf, show look (R.val (.bool true)) ρ2 = some (.pv (.bool true)) from rfl, e6, e7, e8, e9], q⟩
  | false => exact ⟨_, ρ2, by simp [mChain, e1, e2, e3, e4, e5, boolOf, show look (R.val (.bool false)) ρ2 = some (.pv (.bool false)) from rfl], h2 rfl⟩
/-- frozen -/
def FrzQ (x : R) (ρ : Env) (Q : PV → Env → Prop) : Prop := ∃ v ρ', frz x ρ = some (v, ρ') ∧ Q v ρ'
theorem frzV {Q : PV → Env → Prop} (q : Q v ρ) : FrzQ (.val v) ρ Q := ⟨v, ρ, rfl, q⟩
theorem frzN {Q : PV → Env → Prop} {xs : List PV} (q : Q (.list xs) ρ) : FrzQ (.new (.lst xs)) ρ Q := ⟨_, ρ, rfl, q⟩
theorem wp_frz (h : Wp a ρ fun x ρ1 => FrzQ x ρ1 fun v ρ2 => Q (.val v) ρ2) : Wp (mFrz a) ρ Q := by
  obtain ⟨x, ρ1, e1, v, ρ2, e2, q⟩ := h
  exact ⟨_, ρ2, by simp [mFrz, e1, e2], q⟩
theorem wp_lnil (q : QL [] ρ) : Wp lNil ρ QL := ⟨_, _, rfl, q⟩
theorem wp_lcons (h : Wp a ρ fun x ρ1 => FrzQ x ρ1 fun v ρ2 => Wp l ρ2 fun vs ρ3 => QL (v :: vs) ρ3) : Wp (lCons a l) ρ QL := by
  obtain ⟨x, ρ1, e1, v, ρ2, e2, vs, ρ3, e3, q⟩ := h
  exact ⟨_, ρ3, by simp [lCons, e1, e2, e3], q⟩
theorem wp_tup (h : Wp l ρ fun vs ρ1 => vs.length ≤ line ∧ Q (.val (.tuple vs)) ρ1) : Wp (mTup l) ρ Q := by
  obtain ⟨vs, ρ1, e1, hz, q⟩ := h
  exact ⟨_, ρ1, by simp [mTup, e1, hz], q⟩
theorem wp_lst (h : Wp l ρ fun vs ρ1 => vs.length ≤ line ∧ Q (.new (.lst vs)) ρ1) : Wp (mLst l) ρ Q := by
  obtain ⟨vs, ρ1, e1, hz, q⟩ := h
  exact ⟨_, ρ1, by simp [mLst, e1, hz], q⟩
theorem wp_sl {ml mh : MO} (h : Wp a ρ fun x ρ1 => Wp ml ρ1 fun i ρ2 => Wp mh ρ2 fun j ρ3 => UnQ (fSl i j) x ρ3 Q) : Wp (mSl a ml mh) ρ Q := by
  obtain ⟨x, ρ1, e1, i, ρ2, e2, j, ρ3, e3, cx, z, e4, e5, q⟩ := h
  exact ⟨z, ρ3, by simp [mSl, e1, e2, e3, e4, e5], q⟩
theorem wp_onone {Q : Option Int → Env → Prop} (q : Q none ρ) : Wp oNone ρ Q := ⟨_, _, rfl, q⟩
theorem wp_osome {Q : Option Int → Env → Prop} (h : Wp a ρ fun x ρ1 => ∃ i, look x ρ1 = some (.pv (.int i)) ∧ Q (some i) ρ1) : Wp (oSome a) ρ Q := by
  obtain ⟨x, ρ1, e1, i, e2, q⟩ := h
  exact ⟨_, ρ1, by simp [oSome, e1, e2, intOf], q⟩

/-! ### statements -/
theorem wp_next (q : QS .nx ρ) : Wp sNext ρ QS := ⟨_, _, rfl, q⟩
theorem wp_brk (q : QS .bk ρ) : Wp sBrk ρ QS := ⟨_, _, rfl, q⟩
theorem wp_cont (q : QS .ct ρ) : Wp sCont ρ QS := ⟨_, _, rfl, q⟩
/-- what is wanted behind the first of two statements -/
def SeqQ (s : SM) (Q : Fl → Env → Prop) (f : Fl) (ρ : Env) : Prop := match f with
  | .nx => Wp s ρ Q
  | f => Q f ρ
theorem wp_seq (h : Wp s1 ρ (SeqQ s2 QS)) : Wp (sSeq s1 s2) ρ QS := by
  obtain ⟨f, ρ1, e1, h⟩ := h
  cases f with
  | nx => obtain ⟨f2, ρ2, e2, q⟩ := h; exact ⟨f2, ρ2, by simp [sSeq, e1, e2], q⟩
  | rt r => exact ⟨_, ρ1, by simp [sSeq, e1], h⟩
  | bk => exact ⟨_, ρ1, by simp [sSeq, e1], h⟩
  | ct => exact ⟨_, ρ1, by simp [sSeq, e1], h⟩
theorem seq_nx (h : Wp s ρ QS) : SeqQ s QS .nx ρ := h
theorem seq_rt {r : R} (h : QS (.rt r) ρ) : SeqQ s QS (.rt r) ρ := h
theorem seq_bk (h : QS .bk ρ) : SeqQ s QS .bk ρ := h
theorem seq_ct (h : QS .ct ρ) : SeqQ s QS .ct ρ := h
theorem wp_ret (h : Wp a ρ fun x ρ1 => QS (.rt x) ρ1) : Wp (sRet a) ρ QS := by
  obtain ⟨x, ρ1, e1, q⟩ := h
  exact ⟨_, ρ1, by simp [sRet, e1], q⟩
theorem wp_retN (q : QS (.rt (.val .none)) ρ) : Wp sRetN ρ QS := ⟨_, _, rfl, q⟩
theorem wp_if (h : Wp t ρ fun x ρ1 => (x = true → Wp s1 ρ1 QS) ∧ (x = false → Wp s2 ρ1 QS)) : Wp (sIf t s1 s2) ρ QS := by
  obtain ⟨x, ρ1, e1, h1, h2⟩ := h
  cases x with
  | true => obtain ⟨y, ρ2, e2, q⟩ := h1 rfl; exact ⟨y, ρ2, by simp [sIf, e1, e2], q⟩
  | false => obtain ⟨y, ρ2, e2, q⟩ := h2 rfl; exact ⟨y, ρ2, by simp [sIf, e1, e2], q⟩
theorem wp_expr (h : Wp a ρ fun _ ρ1 => QS .nx ρ1) : Wp (sExpr a) ρ QS := by
  obtain ⟨x, ρ1, e1, q⟩ := h
  exact ⟨_, ρ1, by simp [sExpr, e1], q⟩
def PutQ (m : MG) (x : R) (ρ : Env) (Q : Env → Prop) : Prop := ∃ ρ', m x ρ = some ρ' ∧ Q ρ'
theorem wp_asg {m : MG} (h : Wp a ρ fun x ρ1 => PutQ m x ρ1 fun ρ2 => QS .nx ρ2) : Wp (sAsg a m) ρ QS := by
  obtain ⟨x, ρ1, e1, ρ2, e2, q⟩ := h
  exact ⟨_, ρ2, by simp [sAsg, e1, e2], q⟩
theorem wp_par (h : Wp a ρ fun x ρ1 => FrzQ x ρ1 fun v ρ2 => Wp b ρ2 fun y ρ3 => FrzQ y ρ3 fun w ρ4 => ∃ ρ5 ρ6, put i (some (.val v)) ρ4 = some ρ5 ∧ put j (some (.val w)) ρ5 = some ρ6 ∧ QS .nx ρ6) : Wp (sPar i j a b) ρ QS := by
  obtain ⟨x, ρ1, e1, v, ρ2, e2, y, ρ3, e3, w, ρ4, e4, ρ5, ρ6, e5, e6, q⟩ := h
  exact ⟨_, ρ6, by simp [sPar, e1, e2, e3, e4, e5, e6], q⟩
theorem wp_append {xs : List PV} (h0 : lstAt ρ i = some xs) (h : Wp a ρ fun x ρ1 => FrzQ x ρ1 fun v ρ2 => ∃ xs, lstAt ρ2 i = some xs ∧ xs.length < line ∧ Q (.val .none) (setOb ρ2 i (.lst (xs ++ [v])))) : Wp (mAppend i a) ρ Q := by
  obtain ⟨x, ρ1, e1, v, ρ2, e2, ys, e3, hz, q⟩ := h
  exact ⟨_, _, by simp [mAppend, h0, e1, e2, e3, hz], q⟩
theorem wp_pop {xs : List PV} (h0 : lstAt ρ i = some xs) (h1 : xs.getLast? = some v) (q : Q (.val v) (setOb ρ i (.lst xs.dropLast))) : Wp (mPop i) ρ Q := ⟨_, _, by simp [mPop, h0, h1], q⟩
theorem wp_reverse {xs : List PV} (h0 : lstAt ρ i = some xs) (q : Q (.val .none) (setOb ρ i (.lst xs.reverse))) : Wp (mReverse i) ρ Q := ⟨_, _, by simp [mReverse, h0], q⟩
theorem wp_popAt {xs : List PV} (h0 : lstAt ρ i = some xs) (h : Wp a ρ fun x ρ1 => ∃ k xs j v, look x ρ1 = some (.pv (.int k)) ∧ lstAt ρ1 i = some xs ∧ (-(2 ^ 62) < k ∧ k < 2 ^ 62) ∧ ixN xs.length k = some j ∧ xs[j]? = some v ∧ Q (.val v) (setOb ρ1 i (.lst (xs.eraseIdx j)))) : Wp (mPopAt i a) ρ Q := by
  obtain ⟨x, ρ1, e1, k, xs', j, v, e2, e3, hz, e4, e5, q⟩ := h
  exact ⟨_, _, by simp only [mPopAt, h0, e1, e2, e3, e4, e5, intOf, if_pos hz, Option.bind_some, Option.map_some], q⟩
theorem wp_setIx (h : Wp a ρ fun x ρ1 => FrzQ x ρ1 fun v ρ2 => ∃ ys, lstAt ρ2 i = some ys ∧ Wp b ρ2 fun y ρ3 => ∃ k xs j, look y ρ3 = some (.pv (.int k)) ∧ lstAt ρ3 i = some xs ∧ ixN xs.length k = some j ∧ QS .nx (setOb ρ3 i (.lst (xs.set j v)))) : Wp (sSetIx i b a) ρ QS := by
  obtain ⟨x, ρ1, e1, v, ρ2, e2, ys, e0, y, ρ3, e3, k, xs, j, e4, e5, e6, q⟩ := h
  exact ⟨_, _, by simp [sSetIx, e1, e2, e0, e3, e4, e5, e6, intOf], q⟩
theorem wp_fgt {is : List Nat} (h : Wp s ρ fun f ρ1 => match f with | .rt r => QS (.rt r) ρ1 | f => QS f (forget is ρ1)) : Wp (sFgt is s) ρ QS := by
  obtain ⟨f, ρ1, e1, q⟩ := h
  cases f <;> exact ⟨_, _, by simp only [sFgt, e1, Option.map_some], q⟩
/-! calls -/
theorem wp_anil (q : QA [] ρ) : Wp (agsEval []) ρ QA := ⟨_, _, rfl, q⟩
theorem wp_av {r : List Ag} (h : Wp a ρ fun x ρ1 => FrzQ x ρ1 fun v ρ2 => Wp (agsEval r) ρ2 fun z ρ3 => QA (.val v :: z) ρ3) : Wp (agsEval (.v a :: r)) ρ QA := by
  obtain ⟨x, ρ1, e1, v, ρ2, e2, z, ρ3, e3, q⟩ := h
  exact ⟨_, ρ3, by simp [agsEval, e1, e2, e3], q⟩
theorem wp_ar {r : List Ag} {o : Ob} (h0 : obAt ρ i = some o) (h : Wp (agsEval r) ρ fun z ρ1 => ∃ o, obAt ρ1 i = some o ∧ QA (.ref o :: z) ρ1) : Wp (agsEval (.r i :: r)) ρ QA := by
  obtain ⟨z, ρ1, e1, o', e2, q⟩ := h
  exact ⟨_, ρ1, by simp [agsEval, h0, e1, e2], q⟩
theorem wp_call {ags : List Ag} (nd : (refsOf ags).Nodup) (h : Wp (agsEval ags) ρ fun ss ρ1 => Ret d ss fun r os => Q r (setObs (refsOf ags) os ρ1)) : Wp (mCall d ags) ρ Q := by
  obtain ⟨ss, ρ1, e1, r, os, e2, q⟩ := h
  exact ⟨r, _, by simp [mCall, e1, e2, nd], q⟩
/-! loops -/
/-- what is wanted behind a turn -/
def TurnQ (N : Env → Prop) (Q : Fl → Env → Prop) (f : Fl) (ρ : Env) : Prop := match f with
  | .nx => N ρ
  | .ct => N ρ
  | .bk => Q .nx ρ
  | .rt r => Q (.rt r) ρ
theorem wp_for {it : MI} {m : MG} (h : Wp it ρ fun xs ρ1 => Wp (loopF m s xs) ρ1 QS) : Wp (sFor it m s) ρ QS := by
  obtain ⟨xs, ρ1, e1, f, ρ2, e2, q⟩ := h
  exact ⟨f, ρ2, by simp [sFor, e1, e2], q⟩
/-- a loop by its invariant: P, of the items gone through -/
theorem wp_loop {α : Type} {m : MG} (fn : α → PV) (P : List α → Env → Prop) (ys : List α) (h0 : P [] ρ)
    (step : ∀ done y rest ρ, ys = done ++ y :: rest → P done ρ → PutQ m (.val (fn y)) ρ fun ρ1 => Wp s ρ1 (TurnQ (P (done ++ [y])) QS)) (hd : ∀ ρ, P ys ρ → QS .nx ρ) : Wp (loopF m s (ys.map fn)) ρ QS := by
  have key : ∀ (rest done : List α) (ρ : Env), ys = done ++ rest → P done ρ → Wp (loopF m s (rest.map fn)) ρ QS := by
    intro rest
    induction rest with
    | nil =>
      intro done ρ e p
      rw [List.append_nil] at e
      subst e
      exact ⟨_, _, rfl, hd ρ p⟩
    | cons y rest ih =>
      intro done ρ e p
      obtain ⟨ρ1, e1, f, ρ2, e2, q⟩ := step done y rest ρ e p
      have e' : ys = (done ++ [y]) ++ rest := by rw [e]; simp
      cases f with
      | nx => obtain ⟨f', ρ3, e3, q⟩ := ih _ ρ2 e' q; exact ⟨f', ρ3, by simp [loopF, e1, e2, e3], q⟩
      | ct => obtain ⟨f', ρ3, e3, q⟩ := ih _ ρ2 e' q; exact ⟨f', ρ3, by simp [loopF, e1, e2, e3], q⟩
      | bk => exact ⟨_, ρ2, by simp [loopF, e1, e2], q⟩
      | rt r => exact ⟨_, ρ2, by simp [loopF, e1, e2], q⟩
  exact key ys [] ρ rfl h0
theorem wp_seqI (h : Wp a ρ fun x ρ1 => ∃ xs, (x = .val (.list xs) ∨ x = .val (.tuple xs) ∨ x = .new (.lst xs)) ∧ QL xs ρ1) : Wp (iSeq a) ρ QL := by
  obtain ⟨x, ρ1, e1, xs, h, q⟩ := h
  rcases h with rfl | rfl | rfl <;> exact ⟨xs, ρ1, by simp [iSeq, e1], q⟩
theorem wp_rng1 (h : Wp a ρ fun x ρ1 => ∃ n, look x ρ1 = some (.pv (.int n)) ∧ (n ≤ line ∧ -(2 ^ 62) ≤ n) ∧ QL ((List.range n.toNat).map fun (k : Nat) => .int (k : Int)) ρ1) : Wp (iRng1 a) ρ QL := by
  obtain ⟨x, ρ1, e1, n, e2, hz, q⟩ := h
  refine ⟨rangeL 0 n.toNat, ρ1, by simp only [iRng1, e1, e2, intOf, Option.bind_some, if_pos hz], ?_⟩
  unfold rangeL
  simpa using q
theorem whileF_mono {n : Nat} {x : Fl × Env} : ∀ {ρ : Env}, whileF t s n ρ = some x → ∀ k, whileF t s (n + k) ρ = some x := by
  induction n with
  | zero => intro ρ h; cases h
  | succ n ih =>
    intro ρ h k
    rw [Nat.add_right_comm]
    simp only [whileF, Option.bind_eq_some_iff] at h ⊢
    obtain ⟨⟨b, ρ1⟩, e1, h⟩ := h
    refine ⟨(b, ρ1), e1, ?_⟩
    cases b with
    | false => simpa using h
    | true =>
      simp only [if_true, Option.bind_eq_some_iff] at h ⊢
      obtain ⟨⟨f, ρ2⟩, e2, h⟩ := h
      refine ⟨(f, ρ2), e2, ?_⟩
      cases f with
      | nx => exact ih h k
      | ct => exact ih h k
      | bk => exact h
      | rt r => exact h
theorem while_of {n : Nat} {x : Fl × Env} (h : whileF t s n ρ = some x) : sWhile t s ρ = some x := by
  have ex : ∃ n, (whileF t s n ρ).isSome = true := ⟨n, by rw [h]; rfl⟩
  unfold sWhile
  rw [dif_pos ex]
  obtain ⟨y, hy⟩ := Option.isSome_iff_exists.mp ex.choose_spec
  have h1 := whileF_mono h ex.choose
  have h2 := whileF_mono hy n
  rw [Nat.add_comm] at h2
  rw [h1] at h2
  rw [hy, h2]
/-- a while by its invariant P and a measure -/
theorem wp_while {β : Type} (P : β → Env → Prop) (μ : β → Nat) (x0 : β) (h0 : P x0 ρ)
    (step : ∀ x ρ, P x ρ → Wp t ρ fun b ρ1 => (b = true → Wp s ρ1 (TurnQ (fun ρ2 => ∃ x', μ x' < μ x ∧ P x' ρ2) QS)) ∧ (b = false → QS .nx ρ1)) : Wp (sWhile t s) ρ QS := by
  have key : ∀ (n : Nat) (x : β) (ρ : Env), μ x < n → P x ρ → ∃ f ρ', whileF t s n ρ = some (f, ρ') ∧ QS f ρ' := by
    intro n
    induction n with
    | zero => intro x ρ h; omega
    | succ n ih =>
      intro x ρ hn p
      obtain ⟨b, ρ1, e1, h1, h2⟩ := step x ρ p
      cases b with
      | false => exact ⟨_, ρ1, by simp [whileF, e1], h2 rfl⟩
      | true =>
        obtain ⟨f, ρ2, e2, q⟩ := h1 rfl
        cases f with
        | nx => obtain ⟨x', l, p'⟩ := q; obtain ⟨f', ρ3, e3, q⟩ := ih x' ρ2 (by omega) p'; exact ⟨f', ρ3, by simp [whileF, e1, e2, e3], q⟩
        | ct => obtain ⟨x', l, p'⟩ := q; obtain ⟨f', ρ3, e3, q⟩ := ih x' ρ2 (by omega) p'; exact ⟨f', ρ3, by simp [whileF, e1, e2, e3], q⟩
        | bk => exact ⟨_, ρ2, by simp [whileF, e1, e2], q⟩
        | rt r => exact ⟨_, ρ2, by simp [whileF, e1, e2], q⟩
  obtain ⟨f, ρ', e, q⟩ := key (μ x0 + 1) x0 ρ (Nat.lt_succ_self _) h0
  exact ⟨f, ρ', while_of e, q⟩
/-! comprehensions -/
/-- a turn: the new list's next items ys -/
def LcQ (g : MG) (vs : List Nat) (t : MT) (e : M) (x : PV) (ρ : Env) (Q : List PV → Env → Prop) : Prop :=
  PutQ g (.val x) (wipe ρ vs) fun ρ1 => Wp t ρ1 fun b ρ2 => (b = true → Wp e ρ2 fun r ρ3 => FrzQ r ρ3 fun v ρ4 => Q [v] ρ4) ∧ (b = false → Q [] ρ2)
theorem wp_lc {α : Type} {it : MI} {g : MG} {vs : List Nat} {e : M} (fn : α → PV) (P : List α → List PV → Env → Prop)
    (h : Wp it ρ fun xs ρ1 => ∃ ys : List α, xs = ys.map fn ∧ ys.length ≤ line ∧ P [] [] ρ1 ∧ (∀ done y rest acc ρ, ys = done ++ y :: rest → P done acc ρ → LcQ g vs t e (fn y) ρ fun zs ρ2 => P (done ++ [y]) (acc ++ zs) ρ2) ∧ ∀ acc ρ, P ys acc ρ → Q (.new (.lst acc)) (back ρ1 vs ρ)) :
    Wp (mLc it g vs t e) ρ Q := by
  obtain ⟨xs, ρ1, e1, ys, rfl, hz, h0, step, hd⟩ := h
  have key : ∀ (rest done : List α) (acc : List PV) (ρ : Env), ys = done ++ rest → P done acc ρ → ∃ zs ρ', lcF (lcTurn g vs t e) (rest.map fn) ρ = some (zs, ρ') ∧ P ys (acc ++ zs) ρ' := by
    intro rest
    induction rest with
    | nil =>
      intro done acc ρ e p
      rw [List.append_nil] at e
      subst e
      exact ⟨[], ρ, rfl, by simpa using p⟩
    | cons y rest ih =>
      intro done acc ρ e p
      obtain ⟨ρ2, e2, b, ρ3, e3, h1, h2⟩ := step done y rest acc ρ e p
      have e' : ys = (done ++ [y]) ++ rest := by rw [e]; simp
      cases b with
      | true =>
        obtain ⟨r, ρ4, e4, v, ρ5, e5, q⟩ := h1 rfl
        obtain ⟨zs, ρ', e6, p'⟩ := ih _ _ ρ5 e' q
        exact ⟨v :: zs, ρ', by simp [lcF, lcTurn, e2, e3, e4, e5, e6], by simpa using p'⟩
      | false =>
        obtain ⟨zs, ρ', e6, p'⟩ := ih _ _ ρ3 e' (h2 rfl)
        exact ⟨zs, ρ', by simp [lcF, lcTurn, e2, e3, e6], by simpa using p'⟩
  obtain ⟨zs, ρ', e6, p'⟩ := key ys [] [] ρ1 rfl h0
  exact ⟨.new (.lst zs), back ρ1 vs ρ', by simp only [mLc, e1, Option.bind_some, List.length_map, if_pos hz, e6, Option.map_some], hd _ _ (by simpa using p')⟩
end
/-! ### operators -/
section
variable {a b : Int}
theorem ev_mul (h : mulOk a b = true) : fMul (.pv (.int a)) (.pv (.int b)) = some (.val (.int (a * b))) := by simp [fMul, h]
theorem ev_mod (h : b ≠ 0) : fMod (.pv (.int a)) (.pv (.int b)) = some (.val (.int (a.fmod b))) := by simp [fMod, h]
theorem ev_ix {c : Ct} {xs : List PV} {v : PV} (hc : c = .pv (.tuple xs) ∨ c = .pv (.list xs) ∨ c = .ob (.lst xs)) (h : atI xs a = some v) : fIx c (.pv (.int a)) = some (.val v) := by
  rcases hc with rfl | rfl | rfl <;> simp [fIx, h]
theorem atI_nat {xs : List PV} {j : Nat} {v : PV} (h : xs[j]? = some v) : atI xs (j : Int) = some v := by
  have hj : j < xs.length := (List.getElem?_eq_some_iff.mp h).1
  have : ixN xs.length (j : Int) = some j := by unfold ixN; rw [if_pos (by omega), if_pos (by omega)]; simp
  unfold atI
  rw [this]
  exact h
end
end Py
/-! Q1: rules of reckoning over a written environment. -/
namespace Py
open PySem
theorem get_z (s : Option Sl) (ρ : Env) : get (s :: ρ) 0 = s := rfl
theorem get_s (s : Option Sl) (ρ : Env) (i : Nat) : get (s :: ρ) (i + 1) = get ρ i := rfl
theorem set_z (s t : Option Sl) (ρ : Env) : List.set (s :: ρ) 0 t = t :: ρ := rfl
theorem set_s (s t : Option Sl) (ρ : Env) (i : Nat) : List.set (s :: ρ) (i + 1) t = s :: List.set ρ i t := rfl
inductive PutR : Nat → Option Sl → Env → Env → Prop
  | z {a s : Option Sl} {ρ : Env} (h : isRef a = false) : PutR 0 s (a :: ρ) (s :: ρ)
  | s {a s : Option Sl} {i : Nat} {ρ ρ' : Env} (h : PutR i s ρ ρ') : PutR (i + 1) s (a :: ρ) (a :: ρ')
theorem PutR.put {i s ρ ρ'} (h : PutR i s ρ ρ') : put i s ρ = some ρ' := by
  have : isRef (get ρ i) = false ∧ ρ.set i s = ρ' := by
    induction h with
    | z h => exact ⟨h, rfl⟩
    | s _ ih => exact ⟨ih.1, by rw [List.set_cons_succ, ih.2]⟩
  simp [Py.put, this.1, this.2]
theorem putqV {i : Nat} {v : PV} {ρ ρ' : Env} {Q : Env → Prop} (h : PutR i (some (.val v)) ρ ρ') (q : Q ρ') : PutQ (gName i) (.val v) ρ Q := ⟨ρ', h.put, q⟩
theorem putqN {i : Nat} {o : Ob} {ρ ρ' : Env} {Q : Env → Prop} (h : PutR i (some (.own o)) ρ ρ') (q : Q ρ') : PutQ (gName i) (.new o) ρ Q := ⟨ρ', h.put, q⟩
theorem putq2 {i j : Nat} {v w : PV} {ρ ρ1 ρ2 : Env} {Q : Env → Prop} (h : PutR i (some (.val v)) ρ ρ1) (h2 : PutR j (some (.val w)) ρ1 ρ2) (q : Q ρ2) : PutQ (gTup [i, j]) (.val (.tuple [v, w])) ρ Q := ⟨ρ2, by simp [gTup, gNames, h.put, h2.put], q⟩
theorem unB {a : M} {ρ : Env} {QT : Bool → Env → Prop} (h : Wp a ρ fun x ρ1 => ∃ b, x = .val (.bool b) ∧ QT b ρ1) : Wp (mB a) ρ QT :=
  wp_B (h.mono fun x _ ⟨b, e, q⟩ => ⟨b, by rw [e]; rfl, q⟩)
theorem wp_truB {a : M} {ρ : Env} {QT : Bool → Env → Prop} (h : Wp a ρ fun x ρ1 => ∃ b, x = .val (.bool b) ∧ QT b ρ1) : Wp (mTru a) ρ QT :=
  wp_tru (h.mono fun x _ ⟨b, e, q⟩ => ⟨.pv (.bool b), b, by rw [e]; rfl, rfl, q⟩)
theorem turn_nx {N : Env → Prop} {Q : Fl → Env → Prop} {ρ : Env} (h : N ρ) : TurnQ N Q .nx ρ := h
theorem turn_rt {N : Env → Prop} {Q : Fl → Env → Prop} {ρ : Env} {r : R} (h : Q (.rt r) ρ) : TurnQ N Q (.rt r) ρ := h
theorem branchD {p : Prop} [Decidable p] {A B : Prop} (h1 : p → A) (h2 : ¬p → B) : (decide p = true → A) ∧ (decide p = false → B) := ⟨fun h => h1 (of_decide_eq_true h), fun h => h2 (of_decide_eq_false h)⟩
theorem brT {b : Bool} {A B : Prop} (e : b = true) (h1 : A) : (b = true → A) ∧ (b = false → B) := ⟨fun _ => h1, fun h => (by rw [e] at h; cases h)⟩
theorem brF {b : Bool} {A B : Prop} (e : b = false) (h1 : B) : (b = true → A) ∧ (b = false → B) := ⟨fun h => (by rw [e] at h; cases h), fun _ => h1⟩
theorem ev_ltI {a b : Int} : fLt (.pv (.int a)) (.pv (.int b)) = some (.val (.bool (decide (a < b)))) := rfl
theorem ev_leI {a b : Int} : fLe (.pv (.int a)) (.pv (.int b)) = some (.val (.bool (decide (a ≤ b)))) := rfl
theorem ev_gtI {a b : Int} : fGt (.pv (.int a)) (.pv (.int b)) = some (.val (.bool (decide (b < a)))) := rfl
theorem ev_geI {a b : Int} : fGe (.pv (.int a)) (.pv (.int b)) = some (.val (.bool (decide (b ≤ a)))) := rfl
theorem ev_eqI {a b : Int} : fEq (.pv (.int a)) (.pv (.int b)) = some (.val (.bool (decide (a = b)))) := by simp [fEq, eqD]
theorem ev_neI {a b : Int} : fNe (.pv (.int a)) (.pv (.int b)) = some (.val (.bool (!decide (a = b)))) := by simp [fNe, eqD]

inductive StartR : Nat → List Sl → Env → Prop
  | z : StartR 0 [] []
  | p {n : Nat} {ρ : Env} (h : StartR n [] ρ) : StartR (n + 1) [] (none :: ρ)
  | a {n : Nat} {s : Sl} {as : List Sl} {ρ : Env} (h : StartR n as ρ) : StartR (n + 1) (s :: as) (some s :: ρ)
theorem StartR.eq {n as ρ} (h : StartR n as ρ) : startE n as = ρ := by
  induction h with
  | z => rfl
  | p _ ih => simp [startE] at ih ⊢; rw [List.replicate_succ, ih]
  | a _ ih => simp [startE] at ih ⊢; exact ih
theorem ret_mkR {n : Nat} {as : List Sl} {ρ : Env} {body : SM} {QR : R → List Ob → Prop} (h0 : StartR n as ρ) (h : Wp body ρ fun f ρ' => FinQ as f ρ' QR) : Ret (mkDen n body) as QR := ret_mk (h0.eq ▸ h)
/-- the objects behind a call -/
inductive SetR : Env → Nat → Ob → Env → Prop
  | o {ρ : Env} {o o' : Ob} : SetR (some (.own o) :: ρ) 0 o' (some (.own o') :: ρ)
  | r {ρ : Env} {o o' : Ob} : SetR (some (.ref o) :: ρ) 0 o' (some (.ref o') :: ρ)
  | s {a : Option Sl} {ρ ρ' : Env} {i : Nat} {o : Ob} (h : SetR ρ i o ρ') : SetR (a :: ρ) (i + 1) o (a :: ρ')
theorem SetR.eq {ρ i o ρ'} (h : SetR ρ i o ρ') : setOb ρ i o = ρ' := by
  induction h with
  | o => rfl
  | r => rfl
  | @s a ρ ρ' i o h ih =>
    rw [← ih]
    unfold setOb
    rw [get_s]
    split <;> rfl
theorem wp_popR {ρ ρ' : Env} {i : Nat} {v : PV} {Q : R → Env → Prop} {xs : List PV} (h0 : lstAt ρ i = some xs) (h1 : xs.getLast? = some v) (h2 : SetR ρ i (.lst xs.dropLast) ρ') (q : Q (.val v) ρ') : Wp (mPop i) ρ Q := wp_pop h0 h1 (h2.eq ▸ q)
def AppQ (i : Nat) (v : PV) (ρ : Env) (Q : R → Env → Prop) : Prop := ∃ xs ρ3, lstAt ρ i = some xs ∧ xs.length < line ∧ SetR ρ i (.lst (xs ++ [v])) ρ3 ∧ Q (.val .none) ρ3
theorem wp_appendR {a : M} {ρ : Env} {i : Nat} {Q : R → Env → Prop} {xs : List PV} (h0 : lstAt ρ i = some xs) (h : Wp a ρ fun x ρ1 => FrzQ x ρ1 fun v ρ2 => AppQ i v ρ2 Q) : Wp (mAppend i a) ρ Q := by
  refine wp_append h0 (h.mono fun x ρ1 ⟨v, ρ2, e, xs, ρ3, h1, h2, h3, q⟩ => ⟨v, ρ2, e, xs, h1, h2, ?_⟩)
  rw [h3.eq]; exact q
/-- a call with one object -/
def CallQ (is : List Nat) (r : R) (os : List Ob) (ρ : Env) (Q : R → Env → Prop) : Prop := Q r (setObs is os ρ)
theorem callq0 {r : R} {ρ : Env} {Q : R → Env → Prop} (q : Q r ρ) : CallQ [] r [] ρ Q := q
theorem callq1 {i : Nat} {o : Ob} {r : R} {ρ ρ' : Env} {Q : R → Env → Prop} (h : SetR ρ i o ρ') (q : Q r ρ') : CallQ [i] r [o] ρ Q := by
  show Q r (setOb ρ i o)
  rw [h.eq]; exact q
theorem callq2 {i j : Nat} {o p : Ob} {r : R} {ρ ρ1 ρ2 : Env} {Q : R → Env → Prop} (h : SetR ρ i o ρ1) (h2 : SetR ρ1 j p ρ2) (q : Q r ρ2) : CallQ [i, j] r [o, p] ρ Q := by
  show Q r (setOb (setOb ρ i o) j p)
  rw [h.eq, h2.eq]; exact q
inductive RefsR : List Ag → List Nat → Prop
  | nil : RefsR [] []
  | v {a : M} {r : List Ag} {is : List Nat} (h : RefsR r is) : RefsR (.v a :: r) is
  | r {i : Nat} {r : List Ag} {is : List Nat} (h : RefsR r is) : RefsR (.r i :: r) (i :: is)
theorem RefsR.eq {ags is} (h : RefsR ags is) : refsOf ags = is := by
  induction h with
  | nil => rfl
  | v _ ih => exact ih
  | r _ ih => exact congrArg _ ih
theorem wp_callR {d : Den} {ags : List Ag} {is : List Nat} {ρ : Env} {Q : R → Env → Prop} (e' : RefsR ags is) (nd : is.Nodup) (h : Wp (agsEval ags) ρ fun ss ρ1 => Ret d ss fun r os => CallQ is r os ρ1 Q) : Wp (mCall d ags) ρ Q := by
  have e := e'.eq
  subst e; exact wp_call nd h
/-- names forgotten -/
inductive FgtR : Nat → Env → Env → Prop
  | z {a : Option Sl} {ρ : Env} (h : isRef a = false) : FgtR 0 (a :: ρ) (none :: ρ)
  | k {o : Ob} {ρ : Env} : FgtR 0 (some (.ref o) :: ρ) (some (.ref o) :: ρ)
  | s {a : Option Sl} {i : Nat} {ρ ρ' : Env} (h : FgtR i ρ ρ') : FgtR (i + 1) (a :: ρ) (a :: ρ')
theorem FgtR.eq {i ρ ρ'} (h : FgtR i ρ ρ') : (if isRef (get ρ i) then ρ else ρ.set i none) = ρ' := by
  induction h with
  | z h => simp [get_z, h]
  | k => rfl
  | @s a i ρ ρ' h ih =>
    rw [get_s, set_s, ← ih]
    split <;> rfl
inductive FgtsR : List Nat → Env → Env → Prop
  | nil {ρ : Env} : FgtsR [] ρ ρ
  | cons {i : Nat} {r : List Nat} {ρ ρ1 ρ2 : Env} (h : FgtsR r ρ ρ1) (h2 : FgtR i ρ1 ρ2) : FgtsR (i :: r) ρ ρ2
theorem FgtsR.eq {is ρ ρ'} (h : FgtsR is ρ ρ') : forget is ρ = ρ' := by
  induction h with
  | nil => rfl
  | cons _ h2 ih => rw [← h2.eq, ← ih]; rfl
def FgtQ (is : List Nat) (QS : Fl → Env → Prop) (f : Fl) (ρ : Env) : Prop := match f with | .rt r => QS (.rt r) ρ | f => QS f (forget is ρ)
theorem wp_fgtR {is : List Nat} {s : SM} {ρ : Env} {QS : Fl → Env → Prop} (h : Wp s ρ (FgtQ is QS)) : Wp (sFgt is s) ρ QS := wp_fgt h
section
variable {is : List Nat} {ρ ρ' : Env} {QS : Fl → Env → Prop} {r : R}
theorem fgt_nx (h : FgtsR is ρ ρ') (q : QS .nx ρ') : FgtQ is QS .nx ρ := by show QS .nx (forget is ρ); rw [h.eq]; exact q
theorem fgt_bk (h : FgtsR is ρ ρ') (q : QS .bk ρ') : FgtQ is QS .bk ρ := by show QS .bk (forget is ρ); rw [h.eq]; exact q
theorem fgt_ct (h : FgtsR is ρ ρ') (q : QS .ct ρ') : FgtQ is QS .ct ρ := by show QS .ct (forget is ρ); rw [h.eq]; exact q
theorem fgt_rt (q : QS (.rt r) ρ) : FgtQ is QS (.rt r) ρ := q
theorem turn_ct {N : Env → Prop} {Q : Fl → Env → Prop} (h : N ρ) : TurnQ N Q .ct ρ := h
theorem turn_bk {N : Env → Prop} {Q : Fl → Env → Prop} (h : Q .nx ρ) : TurnQ N Q .bk ρ := h
end
/-- a loop over a row of values, by how many are gone through -/
theorem wp_loopK {m : MG} {s : SM} {ρ : Env} {QS : Fl → Env → Prop} {xs : List PV} (P : Nat → Env → Prop) (h0 : P 0 ρ)
    (step : ∀ k (hk : k < xs.length) ρ, P k ρ → PutQ m (.val xs[k]) ρ fun ρ1 => Wp s ρ1 (TurnQ (P (k + 1)) QS)) (hd : ∀ ρ, P xs.length ρ → QS .nx ρ) : Wp (loopF m s xs) ρ QS := by
  have := wp_loop (m := m) (s := s) (QS := QS) (ρ := ρ) (fun x : PV => x) (fun done ρ => P done.length ρ) xs h0 (fun done y rest ρ e p => ?_) hd
  · rwa [List.map_id''] at this; intro; rfl
  · have hk : done.length < xs.length := by rw [e]; simp
    have hy : xs[done.length] = y := by simp [e]
    have h := step done.length hk ρ p
    rw [hy] at h
    simpa using h
theorem wp_forN {a : M} {m : MG} {s : SM} {ρ : Env} {QS : Fl → Env → Prop} (P : Nat → Env → Prop) (n : Nat)
    (h : Wp a ρ fun x ρ1 => look x ρ1 = some (.pv (.int n)) ∧ n ≤ line ∧ P 0 ρ1) (step : ∀ k ρ, k < n → P k ρ → PutQ m (.val (.int k)) ρ fun ρ1 => Wp s ρ1 (TurnQ (P (k + 1)) QS)) (hd : ∀ ρ, P n ρ → QS .nx ρ) : Wp (sFor (iRng1 a) m s) ρ QS := by
  refine wp_for (wp_rng1 (h.mono fun x ρ1 ⟨e, hz, h0⟩ => ⟨n, e, ⟨by exact_mod_cast hz, by omega⟩, ?_⟩))
  refine wp_loopK P h0 (fun k hk ρ p => ?_) (fun ρ p => hd ρ ?_)
  · simp at hk
    simpa using step k ρ hk p
  · simpa using p
theorem wp_forL {it : M} {m : MG} {s : SM} {ρ : Env} {QS : Fl → Env → Prop} (P : Nat → Env → Prop)  (xs : List PV)
    (h : Wp it ρ fun x ρ1 => (x = .val (.list xs) ∨ x = .val (.tuple xs) ∨ x = .new (.lst xs)) ∧ P 0 ρ1) (step : ∀ k (hk : k < xs.length) ρ, P k ρ → PutQ m (.val xs[k]) ρ fun ρ1 => Wp s ρ1 (TurnQ (P (k + 1)) QS)) (hd : ∀ ρ, P xs.length ρ → QS .nx ρ) : Wp (sFor (iSeq it) m s) ρ QS := by
  refine wp_for (wp_seqI (h.mono fun x ρ1 ⟨e, h0⟩ => ⟨xs, e, ?_⟩))
  exact wp_loopK P h0 step hd
theorem mulOk_of {a b : Int} (m n : Nat) (ha : a.natAbs < 2 ^ m) (hb : b.natAbs < 2 ^ n) (h : m + n < 100000000 := by decide) : mulOk a b = true := by
  have h1 : a.natAbs.log2 ≤ m := by
    by_cases h0 : a.natAbs = 0
    · rw [h0]; simp
    · exact Nat.le_of_lt ((Nat.log2_lt h0).mpr ha)
  have h2 : b.natAbs.log2 ≤ n := by
    by_cases h0 : b.natAbs = 0
    · rw [h0]; simp
    · exact Nat.le_of_lt ((Nat.log2_lt h0).mpr hb)
  unfold mulOk
  exact decide_eq_true (by omega)
theorem parq {i j : Nat} {v w : PV} {ρ ρ1 ρ2 : Env} {Q : Env → Prop} (h : PutR i (some (.val v)) ρ ρ1) (h2 : PutR j (some (.val w)) ρ1 ρ2) (q : Q ρ2) : ∃ ρ5 ρ6, put i (some (.val v)) ρ = some ρ5 ∧ put j (some (.val w)) ρ5 = some ρ6 ∧ Q ρ6 := ⟨ρ1, ρ2, h.put, h2.put, q⟩
theorem ixN_nat {n j : Nat} (h : j < n) : ixN n (j : Int) = some j := by
  unfold ixN
  rw [if_pos (by omega), if_pos (by omega)]
  simp
def IxQ (i : Nat) (v : PV) (y : R) (ρ : Env) (Q : Env → Prop) : Prop := ∃ k xs j ρ4, look y ρ = some (.pv (.int k)) ∧ lstAt ρ i = some xs ∧ ixN xs.length k = some j ∧ SetR ρ i (.lst (xs.set j v)) ρ4 ∧ Q ρ4
theorem ixq {i j : Nat} {v : PV} {y : R} {ρ ρ4 : Env} {Q : Env → Prop} {xs : List PV} (h1 : look y ρ = some (.pv (.int (j : Int)))) (h2 : lstAt ρ i = some xs) (h3 : j < xs.length) (h4 : SetR ρ i (.lst (xs.set j v)) ρ4) (q : Q ρ4) : IxQ i v y ρ Q := ⟨_, _, _, _, h1, h2, ixN_nat h3, h4, q⟩
theorem wp_setIxR {a b : M} {ρ : Env} {i : Nat} {QS : Fl → Env → Prop} (h : Wp a ρ fun x ρ1 => FrzQ x ρ1 fun v ρ2 => ∃ ys, lstAt ρ2 i = some ys ∧ Wp b ρ2 fun y ρ3 => IxQ i v y ρ3 fun ρ4 => QS .nx ρ4) : Wp (sSetIx i b a) ρ QS := by
  refine wp_setIx (h.mono fun x ρ1 ⟨v, ρ2, e, ys, h1, h2⟩ => ⟨v, ρ2, e, ys, h1, h2.mono fun y ρ3 ⟨k, xs, j, ρ4, h3, h4, h5, h6, q⟩ => ⟨k, xs, j, h3, h4, h5, ?_⟩⟩)
  rw [h6.eq]; exact q
theorem wp_reverseR {ρ ρ' : Env} {i : Nat} {Q : R → Env → Prop} {xs : List PV} (h0 : lstAt ρ i = some xs) (h2 : SetR ρ i (.lst xs.reverse) ρ') (q : Q (.val .none) ρ') : Wp (mReverse i) ρ Q := wp_reverse h0 (h2.eq ▸ q)
/-- a comprehension over a list, no test -/
def ElQ (e : M) (ρ : Env) (Q : PV → Env → Prop) : Prop := Wp e ρ fun r ρ3 => FrzQ r ρ3 Q
theorem appq {ρ ρ3 : Env} {i : Nat} {xs : List PV} {v : PV} {Q : R → Env → Prop} (h1 : lstAt ρ i = some xs) (h2 : xs.length < line) (h3 : SetR ρ i (.lst (xs ++ [v])) ρ3) (q : Q (.val .none) ρ3) : AppQ i v ρ Q := ⟨xs, ρ3, h1, h2, h3, q⟩
theorem fmod_ix (i : Int) {n : Nat} (h : 0 < n) : ∃ j : Nat, i.fmod n = j ∧ j < n := by
  have h1 := Int.fmod_nonneg_of_pos i (b := n) (by omega)
  have h2 := Int.fmod_lt_of_pos i (b := n) (by omega)
  obtain ⟨j, hj⟩ := Int.eq_ofNat_of_zero_le h1
  exact ⟨j, hj, by omega⟩
/-- what holds behind a statement -/
theorem wp_mid {s s2 : SM} {ρ : Env} {QS : Fl → Env → Prop} (P : Env → Prop) (h1 : Wp s ρ fun f ρ' => f = Fl.nx ∧ P ρ') (h2 : ∀ ρ', P ρ' → Wp s2 ρ' QS) : Wp s ρ (SeqQ s2 QS) :=
  h1.mono fun f ρ' ⟨e, q⟩ => by rw [e]; exact h2 ρ' q
theorem mulB {a b : Int} {m n : Nat} (ha : Builtin.Int.intBits a ≤ m) (hb : Builtin.Int.intBits b ≤ n) (h : m + n < 100000000 := by decide) : mulOk a b = true :=
  mulOk_of m n (intBits_le_iff.mp ha) (intBits_le_iff.mp hb) h
theorem frzB {i : Nat} {o : Ob} {v : PV} {ρ ρ' : Env} {Q : PV → Env → Prop} (h : get ρ i = some (.own o)) (h2 : frzO o = some v) (h3 : PutR i (some (.val v)) ρ ρ') (q : Q v ρ') : FrzQ (.bor i) ρ Q := by
  refine ⟨v, ρ', ?_, q⟩
  have : isRef (get ρ i) = false ∧ ρ.set i (some (.val v)) = ρ' := by
    have e := h3.put
    simp only [put, h, isRef, Bool.false_eq_true, if_false] at e
    rw [h]
    exact ⟨rfl, Option.some.inj e⟩
  simp [frz, h, h2, this.2]
abbrev sOf (s : String) : Str := PySem.Str.ofString s
theorem ev_strT {s : Str} : fEq (.pv (.str s)) (.pv (.str s)) = some (.val (.bool true)) := by simp [fEq, eqD]
theorem ev_strF {s t : Str} (h : s ≠ t) : fEq (.pv (.str s)) (.pv (.str t)) = some (.val (.bool false)) := by simp [fEq, eqD, h]
theorem n1 : sOf "not" ≠ sOf "is" := by decide
theorem n2 : sOf "all" ≠ sOf "is" := by decide
theorem n3 : sOf "any" ≠ sOf "is" := by decide
theorem n4 : sOf "all" ≠ sOf "not" := by decide
theorem n5 : sOf "any" ≠ sOf "not" := by decide
theorem n6 : sOf "any" ≠ sOf "all" := by decide
end Py
namespace D
open Py
noncomputable def b_divisor : SM :=
    (sRet (mOp fGcd (mVar 0) (mVar 1)))
noncomputable def d_divisor : Den := mkDen 2 b_divisor

noncomputable def b_fraction : SM :=
    (sSeq (sAsg (mCall d_divisor [.v (mVar 0), .v (mVar 1)]) (Py.gName 2))
    (sSeq (sIf (mB (mOp fLt (mVar 1) (mC (.int 0)))) (sAsg (mUn fNeg (mVar 2)) (Py.gName 2)) sNext)
    (sRet (mTup (lCons (mOp fDiv (mVar 0) (mVar 2)) (lCons (mOp fDiv (mVar 1) (mVar 2)) lNil))))))
noncomputable def d_fraction : Den := mkDen 3 b_fraction

noncomputable def b_plus : SM :=
    (sRet (mCall d_fraction [.v (mOp fAdd (mOp fMul (mOp fIx (mVar 0) (mC (.int 0))) (mOp fIx (mVar 1) (mC (.int 1)))) (mOp fMul (mOp fIx (mVar 1) (mC (.int 0))) (mOp fIx (mVar 0) (mC (.int 1))))), .v (mOp fMul (mOp fIx (mVar 0) (mC (.int 1))) (mOp fIx (mVar 1) (mC (.int 1))))]))
noncomputable def d_plus : Den := mkDen 2 b_plus

noncomputable def b_minus : SM :=
    (sRet (mCall d_fraction [.v (mOp fSub (mOp fMul (mOp fIx (mVar 0) (mC (.int 0))) (mOp fIx (mVar 1) (mC (.int 1)))) (mOp fMul (mOp fIx (mVar 1) (mC (.int 0))) (mOp fIx (mVar 0) (mC (.int 1))))), .v (mOp fMul (mOp fIx (mVar 0) (mC (.int 1))) (mOp fIx (mVar 1) (mC (.int 1))))]))
noncomputable def d_minus : Den := mkDen 2 b_minus

noncomputable def b_times : SM :=
    (sRet (mCall d_fraction [.v (mOp fMul (mOp fIx (mVar 0) (mC (.int 0))) (mOp fIx (mVar 1) (mC (.int 0)))), .v (mOp fMul (mOp fIx (mVar 0) (mC (.int 1))) (mOp fIx (mVar 1) (mC (.int 1))))]))
noncomputable def d_times : Den := mkDen 2 b_times

noncomputable def b_is_less : SM :=
    (sRet (mOp fLt (mOp fMul (mOp fIx (mVar 0) (mC (.int 0))) (mOp fIx (mVar 1) (mC (.int 1)))) (mOp fMul (mOp fIx (mVar 1) (mC (.int 0))) (mOp fIx (mVar 0) (mC (.int 1))))))
noncomputable def d_is_less : Den := mkDen 2 b_is_less

noncomputable def e1_law_draws : M :=
    (mUn fInt (mVar 8))
noncomputable def l2_law_draws : SM :=
    (sFgt [5, 6, 7] (sSeq (sAsg (mOp fMod (mVar 5) (mUn fLen (mVar 2))) (Py.gName 6))
    (sIf (mB (mOp fGe (mOp fIx (mVar 2) (mVar 6)) (mOp fPow (mC (.int 10)) (mC (.int 18))))) (sSeq (sExpr (mAppend 4 (mOp fMod (mUn fInt (mOp fIx (mVar 3) (mVar 6))) (mC (.int 1000)))))
    (sSetIx 3 (mVar 6) (mOp fDiv (mOp fIx (mVar 3) (mVar 6)) (mC (.int 1000))))) (sSeq (sAsg (mOp fMod (mUn fInt (mOp fAdd (mOp fAdd (mOp fMul (mOp fIx (mVar 2) (mVar 6)) (mC (.int 48271))) (mOp fMul (mVar 5) (mC (.int 69621)))) (mC (.int 11)))) (mC (.int 2147483647))) (Py.gName 7))
    (sExpr (mAppend 4 (mOp fMod (mUn fInt (mOp fAdd (mOp fAdd (mOp fMul (mVar 7) (mVar 7)) (mOp fMul (mC (.int 3)) (mVar 7))) (mVar 5))) (mC (.int 1000003)))))))))
noncomputable def b_law_draws : SM :=
    (sSeq (sAsg (mLc (iSeq (mFrz (mVar 0))) (Py.gName 8) [8] tYes e1_law_draws) (Py.gName 2))
    (sSeq (sIf (mB (mOp fEq (mUn fLen (mVar 2)) (mC (.int 0)))) (sExpr (mAppend 2 (mC (.int 0)))) sNext)
    (sSeq (sAsg (mUn fList (mVar 2)) (Py.gName 3))
    (sSeq (sAsg (mLst lNil) (Py.gName 4))
    (sSeq (sFor (Py.iRng1 (mVar 1)) (Py.gName 5) l2_law_draws)
    (sSeq (sExpr (mReverse 4))
    (sRet (mVar 4))))))))
noncomputable def d_law_draws : Den := mkDen 9 b_law_draws

noncomputable def b_law_take : SM :=
    (sSeq (sIf (mB (mOp fEq (mUn fLen (mVar 0)) (mC (.int 0)))) (sRet (mC (.int 0))) sNext)
    (sRet (mOp fMod (mUn fInt (mPop 0)) (mVar 1))))
noncomputable def d_law_take : Den := mkDen 2 b_law_take

noncomputable def b_law_cell : SM :=
    (sSeq (sIf (mB (mOp fEq (mUn fLen (mVar 0)) (mC (.int 0)))) (sRet (mC (.int 0))) sNext)
    (sRet (mUn fInt (mOp fIx (mVar 0) (mOp fMod (mUn fInt (mVar 1)) (mUn fLen (mVar 0)))))))
noncomputable def d_law_cell : Den := mkDen 2 b_law_cell

noncomputable def b_law_huge : SM :=
    (sSeq (sAsg (mOp fIx (mLst (lCons (mC (.int 1)) (lCons (mOp fPow (mC (.int 10)) (mC (.int 3))) (lCons (mOp fPow (mC (.int 10)) (mC (.int 9))) (lCons (mOp fPow (mC (.int 10)) (mC (.int 15))) (lCons (mOp fPow (mC (.int 10)) (mC (.int 21))) (lCons (mOp fPow (mC (.int 10)) (mC (.int 27))) lNil))))))) (mCall d_law_take [.r 1, .v (mC (.int 6))])) (Py.gName 2))
    (sSeq (sAsg (mOp fAdd (mCall d_law_cell [.v (mVar 0), .v (mCall d_law_take [.r 1, .v (mC (.int 63))])]) (mOp fMul (mOp fAdd (mC (.int 1)) (mCall d_law_take [.r 1, .v (mC (.int 999))])) (mVar 2))) (Py.gName 3))
    (sRet (mOp fMod (mUn fInt (mVar 3)) (mOp fPow (mC (.int 10)) (mC (.int 30)))))))
noncomputable def d_law_huge : Den := mkDen 4 b_law_huge

noncomputable def l1_law_divisor : SM :=
    (sFgt [] (sPar 0 1 (mVar 1) (mOp fMod (mUn fInt (mVar 0)) (mVar 1))))
noncomputable def t2_law_divisor : MT :=
    (mB (mOp fNe (mVar 1) (mC (.int 0))))
noncomputable def b_law_divisor : SM :=
    (sSeq (sAsg (mUn fAbs (mVar 0)) (Py.gName 0))
    (sSeq (sAsg (mUn fAbs (mVar 1)) (Py.gName 1))
    (sSeq (sFgt [1] (sWhile t2_law_divisor l1_law_divisor))
    (sRet (mVar 0)))))
noncomputable def d_law_divisor : Den := mkDen 2 b_law_divisor

noncomputable def b_law_ratio : SM :=
    (sSeq (sAsg (mCall d_law_divisor [.v (mVar 0), .v (mVar 1)]) (Py.gName 2))
    (sSeq (sIf (mB (mOp fLt (mVar 1) (mC (.int 0)))) (sAsg (mUn fNeg (mVar 2)) (Py.gName 2)) sNext)
    (sRet (mTup (lCons (mOp fDiv (mVar 0) (mVar 2)) (lCons (mOp fDiv (mVar 1) (mVar 2)) lNil))))))
noncomputable def d_law_ratio : Den := mkDen 3 b_law_ratio

noncomputable def b_law_plus : SM :=
    (sRet (mCall d_law_ratio [.v (mOp fAdd (mOp fMul (mOp fIx (mVar 0) (mC (.int 0))) (mOp fIx (mVar 1) (mC (.int 1)))) (mOp fMul (mOp fIx (mVar 1) (mC (.int 0))) (mOp fIx (mVar 0) (mC (.int 1))))), .v (mOp fMul (mOp fIx (mVar 0) (mC (.int 1))) (mOp fIx (mVar 1) (mC (.int 1))))]))
noncomputable def d_law_plus : Den := mkDen 2 b_law_plus

noncomputable def b_law_minus : SM :=
    (sRet (mCall d_law_ratio [.v (mOp fSub (mOp fMul (mOp fIx (mVar 0) (mC (.int 0))) (mOp fIx (mVar 1) (mC (.int 1)))) (mOp fMul (mOp fIx (mVar 1) (mC (.int 0))) (mOp fIx (mVar 0) (mC (.int 1))))), .v (mOp fMul (mOp fIx (mVar 0) (mC (.int 1))) (mOp fIx (mVar 1) (mC (.int 1))))]))
noncomputable def d_law_minus : Den := mkDen 2 b_law_minus

noncomputable def b_law_times : SM :=
    (sRet (mCall d_law_ratio [.v (mOp fMul (mOp fIx (mVar 0) (mC (.int 0))) (mOp fIx (mVar 1) (mC (.int 0)))), .v (mOp fMul (mOp fIx (mVar 0) (mC (.int 1))) (mOp fIx (mVar 1) (mC (.int 1))))]))
noncomputable def d_law_times : Den := mkDen 2 b_law_times

noncomputable def b_law_less : SM :=
    (sRet (mOp fLt (mOp fMul (mOp fIx (mVar 0) (mC (.int 0))) (mOp fIx (mVar 1) (mC (.int 1)))) (mOp fMul (mOp fIx (mVar 1) (mC (.int 0))) (mOp fIx (mVar 0) (mC (.int 1))))))
noncomputable def d_law_less : Den := mkDen 2 b_law_less

noncomputable def l1_law_same (self : Den) : SM :=
    (sFgt [2] (sIf (mNot (mTru (mCall self [.v (mOp fIx (mVar 0) (mVar 2)), .v (mOp fIx (mVar 1) (mVar 2))]))) (sRet (mC (.bool false))) sNext))
noncomputable def b_law_same (self : Den) : SM :=
    (sSeq (sIf (mB (mOp (fIs false) (mVar 1) (mC .none))) (sRet (mOp (fIs false) (mVar 0) (mC .none))) sNext)
    (sSeq (sIf (mTru (mUn (fIsi .bool) (mVar 1))) (sRet (mAndV (mUn (fIsi .bool) (mVar 0)) (mOp fEq (mVar 0) (mVar 1)))) sNext)
    (sSeq (sIf (mTru (mUn (fIsi .int) (mVar 1))) (sRet (mAndV (mUn (fIsi .int) (mVar 0)) (mAndV (mNotV (mUn (fIsi .bool) (mVar 0))) (mOp fEq (mVar 0) (mVar 1))))) sNext)
    (sSeq (sIf (mTru (mUn (fIsi .str) (mVar 1))) (sRet (mAndV (mUn (fIsi .str) (mVar 0)) (mOp fEq (mVar 0) (mVar 1)))) sNext)
    (sSeq (sIf (mOr (mNot (mTru (mUn (fIsi .tuple) (mVar 0)))) (mB (mOp fNe (mUn fLen (mVar 0)) (mUn fLen (mVar 1))))) (sRet (mC (.bool false))) sNext)
    (sSeq (sFor (Py.iRng1 (mUn fLen (mVar 1))) (Py.gName 2) (l1_law_same self))
    (sRet (mC (.bool true)))))))))
noncomputable def d_law_same : Nat → Den
  | 0 => fun _ => none
  | n + 1 => mkDen 3 (b_law_same (d_law_same n))

noncomputable def b_law_drawn : SM :=
    (sSeq (sAsg (mCall d_law_take [.r 1, .v (mC (.int 16))]) (Py.gName 2))
    (sSeq (sAsg (mOp fSub (mCall d_law_take [.r 1, .v (mC (.int 13))]) (mC (.int 6))) (Py.gName 3))
    (sSeq (sAsg (mOp fAdd (mC (.int 1)) (mCall d_law_take [.r 1, .v (mC (.int 6))])) (Py.gName 4))
    (sSeq (sIf (mB (mOp fLt (mVar 2) (mC (.int 8)))) (sAsg (mC (.int 1)) (Py.gName 4)) sNext)
    (sSeq (sIf (mB (mOp fEq (mVar 2) (mC (.int 15)))) (sAsg (mOp fDiv (mOp fMul (mVar 3) (mCall d_law_huge [.v (mVar 0), .r 1])) (mC (.int 7))) (Py.gName 3)) sNext)
    (sSeq (sIf (mOr (mB (mOp fEq (mVar 2) (mC (.int 14)))) (mB (mOp fEq (mVar 2) (mC (.int 15))))) (sAsg (mOp fAdd (mC (.int 1)) (mOp fDiv (mCall d_law_huge [.v (mVar 0), .r 1]) (mC (.int 2)))) (Py.gName 4)) sNext)
    (sRet (mCall d_law_ratio [.v (mVar 3), .v (mVar 4)]))))))))
noncomputable def d_law_drawn : Den := mkDen 5 b_law_drawn

noncomputable def l1_total : SM :=
    (sFgt [2] (sAsg (mCall d_plus [.v (mVar 1), .v (mVar 2)]) (Py.gName 1)))
noncomputable def b_total : SM :=
    (sSeq (sAsg (mC (.tuple [.int 0, .int 1])) (Py.gName 1))
    (sSeq (sFor (iSeq (mFrz (mVar 0))) (Py.gName 2) l1_total)
    (sRet (mVar 1))))
noncomputable def d_total : Den := mkDen 3 b_total

noncomputable def e1_product_sum : M :=
    (mCall d_times [.v (mOp fIx (mVar 0) (mVar 2)), .v (mOp fIx (mVar 1) (mVar 2))])
noncomputable def b_product_sum : SM :=
    (sRet (mCall d_total [.v (mLc (Py.iRng1 (mUn fLen (mVar 0))) (Py.gName 2) [2] tYes e1_product_sum)]))
noncomputable def d_product_sum : Den := mkDen 3 b_product_sum

noncomputable def e1_gains : M :=
    (mOp fIx (mVar 5) (mVar 4))
noncomputable def e2_gains : M :=
    (mCall d_product_sum [.v (mVar 1), .v (mLc (iSeq (mFrz (mVar 3))) (Py.gName 5) [5] tYes e1_gains)])
noncomputable def b_gains : SM :=
    (sSeq (sAsg (mVar 0) (Py.gTup [2, 3]))
    (sRet (mUn fTuple (mLc (Py.iRng1 (mVar 2)) (Py.gName 4) [4] tYes e2_gains))))
noncomputable def d_gains : Den := mkDen 6 b_gains

noncomputable def e1_worths : M :=
    (mCall d_product_sum [.v (mVar 1), .v (mVar 2)])
noncomputable def b_worths : SM :=
    (sRet (mUn fTuple (mLc (iSeq (mOp fIx (mVar 0) (mC (.int 1)))) (Py.gName 2) [2] tYes e1_worths)))
noncomputable def d_worths : Den := mkDen 3 b_worths

noncomputable def l1_law_dot : SM :=
    (sFgt [4] (sSeq (sAsg (mOp fAdd (mOp fMul (mOp fMul (mVar 2) (mOp fIx (mOp fIx (mVar 0) (mVar 4)) (mC (.int 1)))) (mOp fIx (mOp fIx (mVar 1) (mVar 4)) (mC (.int 1)))) (mOp fMul (mOp fMul (mOp fIx (mOp fIx (mVar 0) (mVar 4)) (mC (.int 0))) (mOp fIx (mOp fIx (mVar 1) (mVar 4)) (mC (.int 0)))) (mVar 3))) (Py.gName 2))
    (sSeq (sAsg (mOp fMul (mOp fMul (mVar 3) (mOp fIx (mOp fIx (mVar 0) (mVar 4)) (mC (.int 1)))) (mOp fIx (mOp fIx (mVar 1) (mVar 4)) (mC (.int 1)))) (Py.gName 3))
    (sIf (mB (mOp fGt (mVar 3) (mOp fPow (mC (.int 10)) (mC (.int 40))))) (sAsg (mCall d_law_ratio [.v (mVar 2), .v (mVar 3)]) (Py.gTup [2, 3])) sNext))))
noncomputable def b_law_dot : SM :=
    (sSeq (sAsg (mC (.int 0)) (Py.gName 2))
    (sSeq (sAsg (mC (.int 1)) (Py.gName 3))
    (sSeq (sFor (Py.iRng1 (mUn fLen (mVar 0))) (Py.gName 4) l1_law_dot)
    (sRet (mCall d_law_ratio [.v (mVar 2), .v (mVar 3)])))))
noncomputable def d_law_dot : Den := mkDen 5 b_law_dot

noncomputable def e1_law_gained : M :=
    (mOp fIx (mVar 4) (mVar 3))
noncomputable def e2_law_gained : M :=
    (mCall d_law_dot [.v (mVar 2), .v (mLc (iSeq (mFrz (mVar 1))) (Py.gName 4) [4] tYes e1_law_gained)])
noncomputable def b_law_gained : SM :=
    (sRet (mUn fTuple (mLc (Py.iRng1 (mVar 0)) (Py.gName 3) [3] tYes e2_law_gained)))
noncomputable def d_law_gained : Den := mkDen 5 b_law_gained

noncomputable def e1_law_drawn_table : M :=
    (mCall d_law_drawn [.v (mVar 0), .r 1])
noncomputable def e2_law_drawn_table : M :=
    (mUn fTuple (mLc (Py.iRng1 (mVar 2)) (Py.gName 5) [5] tYes e1_law_drawn_table))
noncomputable def b_law_drawn_table : SM :=
    (sRet (mUn fTuple (mLc (Py.iRng1 (mVar 3)) (Py.gName 4) [4] tYes e2_law_drawn_table)))
noncomputable def d_law_drawn_table : Den := mkDen 6 b_law_drawn_table

noncomputable def e1_law_chances : M :=
    (mOp fAdd (mVar 2) (mCall d_law_take [.r 0, .v (mC (.int 4))]))
noncomputable def e2_law_chances : M :=
    (mCall d_law_ratio [.v (mVar 6), .v (mUn fSum (mVar 3))])
noncomputable def b_law_chances : SM :=
    (sSeq (sAsg (mCall d_law_take [.r 0, .v (mC (.int 2))]) (Py.gName 2))
    (sSeq (sAsg (mLc (Py.iRng1 (mVar 1)) (Py.gName 5) [5] tYes e1_law_chances) (Py.gName 3))
    (sSeq (sAsg (mCall d_law_take [.r 0, .v (mVar 1)]) (Py.gName 4))
    (sSeq (sSetIx 3 (mVar 4) (mOp fAdd (mOp fIx (mVar 3) (mVar 4)) (mC (.int 1))))
    (sRet (mUn fTuple (mLc (iSeq (mFrz (mVar 3))) (Py.gName 6) [6] tYes e2_law_chances)))))))
noncomputable def d_law_chances : Den := mkDen 7 b_law_chances

noncomputable def l1_law_drawn_stakes : SM :=
    (sFgt [4, 5] (sSeq (sAsg (mCall d_law_drawn [.v (mVar 0), .r 1]) (Py.gName 5))
    (sExpr (mAppend 3 (mTup (lCons (mUn fAbs (mOp fIx (mVar 5) (mC (.int 0)))) (lCons (mOp fIx (mVar 5) (mC (.int 1))) lNil)))))))
noncomputable def b_law_drawn_stakes : SM :=
    (sSeq (sAsg (mLst lNil) (Py.gName 3))
    (sSeq (sFor (Py.iRng1 (mVar 2)) (Py.gName 4) l1_law_drawn_stakes)
    (sRet (mUn fTuple (mVar 3)))))
noncomputable def d_law_drawn_stakes : Den := mkDen 6 b_law_drawn_stakes

noncomputable def e1_law_right_2 : M :=
    (mCall d_law_dot [.v (mVar 2), .v (mVar 3)])
noncomputable def b_law_right_2 : SM :=
    (sSeq (sIf (mNot (mTru (mCall (d_law_same 40) [.v (mCall d_gains [.v (mVar 0), .v (mVar 1)]), .v (mCall d_law_gained [.v (mOp fIx (mVar 0) (mC (.int 0))), .v (mOp fIx (mVar 0) (mC (.int 1))), .v (mVar 1)])]))) (sRet (mC (.bool false))) sNext)
    (sRet (mCall (d_law_same 40) [.v (mCall d_worths [.v (mVar 0), .v (mVar 2)]), .v (mUn fTuple (mLc (iSeq (mOp fIx (mVar 0) (mC (.int 1)))) (Py.gName 3) [3] tYes e1_law_right_2))])))
noncomputable def d_law_right_2 : Den := mkDen 4 b_law_right_2

noncomputable def b_is_fraction : SM :=
    (sRet (mAndV (mOp fGe (mOp fIx (mVar 0) (mC (.int 1))) (mC (.int 1))) (mOp fEq (mCall d_fraction [.v (mOp fIx (mVar 0) (mC (.int 0))), .v (mOp fIx (mVar 0) (mC (.int 1)))]) (mVar 0))))
noncomputable def d_is_fraction : Den := mkDen 1 b_is_fraction

noncomputable def e1_are_stakes : M :=
    (mCall d_is_fraction [.v (mVar 2)])
noncomputable def e2_are_stakes : M :=
    (mCall d_is_less [.v (mVar 2), .v (mC (.tuple [.int 0, .int 1]))])
noncomputable def b_are_stakes : SM :=
    (sSeq (sIf (mOr (mB (mOp fNe (mUn fLen (mVar 1)) (mUn fLen (mOp fIx (mVar 0) (mC (.int 1)))))) (mNot (mTru (mUn fAll (mLc (iSeq (mFrz (mVar 1))) (Py.gName 2) [2] tYes e1_are_stakes))))) (sRet (mC (.bool false))) sNext)
    (sRet (mNotV (mUn fAny (mLc (iSeq (mFrz (mVar 1))) (Py.gName 2) [2] tYes e2_are_stakes)))))
noncomputable def d_are_stakes : Den := mkDen 3 b_are_stakes

noncomputable def e1_judge_sure_bet : M :=
    (mCall d_is_less [.v (mC (.tuple [.int 0, .int 1])), .v (mVar 2)])
noncomputable def b_judge_sure_bet : SM :=
    (sRet (mAndV (mCall d_are_stakes [.v (mVar 0), .v (mVar 1)]) (mUn fAll (mLc (iSeq (mCall d_gains [.v (mVar 0), .v (mVar 1)])) (Py.gName 2) [2] tYes e1_judge_sure_bet))))
noncomputable def d_judge_sure_bet : Den := mkDen 3 b_judge_sure_bet

noncomputable def b_law_is_integer : SM :=
    (sRet (mAndV (mUn (fIsi .int) (mVar 0)) (mNotV (mUn (fIsi .bool) (mVar 0)))))
noncomputable def d_law_is_integer : Den := mkDen 1 b_law_is_integer

noncomputable def b_law_is_fraction : SM :=
    (sSeq (sIf (mOr (mNot (mTru (mUn (fIsi .tuple) (mVar 0)))) (mB (mOp fNe (mUn fLen (mVar 0)) (mC (.int 2))))) (sRet (mC (.bool false))) sNext)
    (sSeq (sIf (mOr (mNot (mTru (mCall d_law_is_integer [.v (mOp fIx (mVar 0) (mC (.int 0)))]))) (mOr (mNot (mTru (mCall d_law_is_integer [.v (mOp fIx (mVar 0) (mC (.int 1)))]))) (mB (mOp fLt (mOp fIx (mVar 0) (mC (.int 1))) (mC (.int 1)))))) (sRet (mC (.bool false))) sNext)
    (sRet (mOp fEq (mCall d_law_divisor [.v (mOp fIx (mVar 0) (mC (.int 0))), .v (mOp fIx (mVar 0) (mC (.int 1)))]) (mC (.int 1))))))
noncomputable def d_law_is_fraction : Den := mkDen 1 b_law_is_fraction

noncomputable def l1_law_is_row : SM :=
    (sFgt [2] (sIf (mNot (mTru (mCall d_law_is_fraction [.v (mVar 2)]))) (sRet (mC (.bool false))) sNext))
noncomputable def b_law_is_row : SM :=
    (sSeq (sIf (mOr (mNot (mTru (mUn (fIsi .tuple) (mVar 0)))) (mB (mOp fNe (mUn fLen (mVar 0)) (mVar 1)))) (sRet (mC (.bool false))) sNext)
    (sSeq (sFor (iSeq (mFrz (mVar 0))) (Py.gName 2) l1_law_is_row)
    (sRet (mC (.bool true)))))
noncomputable def d_law_is_row : Den := mkDen 3 b_law_is_row

noncomputable def l1_law_none_below : SM :=
    (sFgt [1] (sIf (mB (mOp fLt (mOp fIx (mVar 1) (mC (.int 0))) (mC (.int 0)))) (sRet (mC (.bool false))) sNext))
noncomputable def b_law_none_below : SM :=
    (sSeq (sFor (iSeq (mFrz (mVar 0))) (Py.gName 1) l1_law_none_below)
    (sRet (mC (.bool true))))
noncomputable def d_law_none_below : Den := mkDen 2 b_law_none_below

noncomputable def b_law_is_stakes : SM :=
    (sRet (mAndV (mCall d_law_is_row [.v (mVar 1), .v (mVar 0)]) (mCall d_law_none_below [.v (mVar 1)])))
noncomputable def d_law_is_stakes : Den := mkDen 2 b_law_is_stakes

noncomputable def l1_law_is_sure : SM :=
    (sFgt [3] (sIf (mB (mOp fLe (mOp fIx (mVar 3) (mC (.int 0))) (mC (.int 0)))) (sRet (mC (.bool false))) sNext))
noncomputable def b_law_is_sure : SM :=
    (sSeq (sIf (mNot (mTru (mCall d_law_is_stakes [.v (mUn fLen (mVar 1)), .v (mVar 2)]))) (sRet (mC (.bool false))) sNext)
    (sSeq (sFor (iSeq (mCall d_law_gained [.v (mVar 0), .v (mVar 1), .v (mVar 2)])) (Py.gName 3) l1_law_is_sure)
    (sRet (mC (.bool true)))))
noncomputable def d_law_is_sure : Den := mkDen 4 b_law_is_sure

noncomputable def b_law_put : SM :=
    (sRet (mOp fAdd (mOp fAdd (mSl (mVar 0) oNone (oSome (mVar 1))) (mTup (lCons (mVar 2) lNil))) (mSl (mVar 0) (oSome (mOp fAdd (mVar 1) (mC (.int 1)))) oNone)))
noncomputable def d_law_put : Den := mkDen 3 b_law_put

noncomputable def e1_law_scaled : M :=
    (mCall d_law_times [.v (mVar 2), .v (mVar 1)])
noncomputable def b_law_scaled : SM :=
    (sRet (mUn fTuple (mLc (iSeq (mFrz (mVar 0))) (Py.gName 2) [2] tYes e1_law_scaled)))
noncomputable def d_law_scaled : Den := mkDen 3 b_law_scaled

noncomputable def e1_law_shifted : M :=
    (mCall d_law_plus [.v (mVar 2), .v (mVar 1)])
noncomputable def b_law_shifted : SM :=
    (sRet (mUn fTuple (mLc (iSeq (mFrz (mVar 0))) (Py.gName 2) [2] tYes e1_law_shifted)))
noncomputable def d_law_shifted : Den := mkDen 3 b_law_shifted

noncomputable def e1_law_turned : M :=
    (mTup (lCons (mUn fNeg (mOp fIx (mVar 1) (mC (.int 0)))) (lCons (mOp fIx (mVar 1) (mC (.int 1))) lNil)))
noncomputable def b_law_turned : SM :=
    (sRet (mUn fTuple (mLc (iSeq (mFrz (mVar 0))) (Py.gName 1) [1] tYes e1_law_turned)))
noncomputable def d_law_turned : Den := mkDen 2 b_law_turned

noncomputable def b_law_factor : SM :=
    (sSeq (sAsg (mCall d_law_take [.r 1, .v (mC (.int 8))]) (Py.gName 2))
    (sSeq (sIf (mB (mOp fLt (mVar 2) (mC (.int 4)))) (sRet (mTup (lCons (mC (.int 1)) (lCons (mC (.int 1)) lNil)))) sNext)
    (sSeq (sIf (mB (mOp fLt (mVar 2) (mC (.int 7)))) (sRet (mCall d_law_ratio [.v (mOp fAdd (mC (.int 1)) (mCall d_law_take [.r 1, .v (mC (.int 5))])), .v (mOp fAdd (mC (.int 1)) (mCall d_law_take [.r 1, .v (mC (.int 5))]))])) sNext)
    (sRet (mCall d_law_ratio [.v (mOp fAdd (mC (.int 1)) (mOp fDiv (mCall d_law_huge [.v (mVar 0), .r 1]) (mOp fPow (mC (.int 10)) (mC (.int 23))))), .v (mOp fAdd (mC (.int 1)) (mOp fDiv (mCall d_law_huge [.v (mVar 0), .r 1]) (mOp fPow (mC (.int 10)) (mC (.int 23)))))])))))
noncomputable def d_law_factor : Den := mkDen 3 b_law_factor

noncomputable def b_law_slack : SM :=
    (sSeq (sAsg (mCall d_law_take [.r 0, .v (mC (.int 6))]) (Py.gName 1))
    (sSeq (sIf (mB (mOp fLt (mVar 1) (mC (.int 3)))) (sRet (mTup (lCons (mC (.int 0)) (lCons (mC (.int 1)) lNil)))) sNext)
    (sSeq (sIf (mB (mOp fEq (mVar 1) (mC (.int 3)))) (sRet (mTup (lCons (mC (.int 1)) (lCons (mOp fIx (mLst (lCons (mOp fPow (mC (.int 10)) (mC (.int 6))) (lCons (mOp fPow (mC (.int 10)) (mC (.int 12))) (lCons (mOp fPow (mC (.int 10)) (mC (.int 18))) lNil)))) (mCall d_law_take [.r 0, .v (mC (.int 3))])) lNil)))) sNext)
    (sRet (mCall d_law_ratio [.v (mOp fAdd (mC (.int 1)) (mCall d_law_take [.r 0, .v (mC (.int 4))])), .v (mOp fAdd (mC (.int 1)) (mCall d_law_take [.r 0, .v (mC (.int 3))]))])))))
noncomputable def d_law_slack : Den := mkDen 2 b_law_slack

noncomputable def e1_law_bet_worth : M :=
    (mTup (lCons (mOp fSub (mCall d_law_take [.r 0, .v (mC (.int 9))]) (mC (.int 4))) (lCons (mC (.int 1)) lNil)))
noncomputable def b_law_bet_worth : SM :=
    (sSeq (sAsg (mLc (iSeq (mFrz (mVar 1))) (Py.gName 4) [4] tYes e1_law_bet_worth) (Py.gName 3))
    (sRet (mCall d_law_shifted [.v (mVar 3), .v (mCall d_law_minus [.v (mVar 2), .v (mCall d_law_dot [.v (mVar 1), .v (mVar 3)])])])))
noncomputable def d_law_bet_worth : Den := mkDen 5 b_law_bet_worth

noncomputable def e1_law_fair_bets : M :=
    (mTup (lCons (mC (.int 0)) (lCons (mC (.int 1)) lNil)))
noncomputable def l2_law_fair_bets : SM :=
    (sFgt [6, 7, 8] (sSeq (sAsg (mCall d_law_slack [.r 1]) (Py.gName 7))
    (sSeq (sAsg (mCall d_law_bet_worth [.r 1, .v (mVar 2), .v (mTup (lCons (mUn fNeg (mOp fIx (mVar 7) (mC (.int 0)))) (lCons (mOp fIx (mVar 7) (mC (.int 1))) lNil)))]) (Py.gName 8))
    (sSeq (sIf (mAnd (mB (mOp fEq (mCall d_law_take [.r 1, .v (mC (.int 4))]) (mC (.int 0)))) (mB (mOp fEq (mOp fIx (mCall d_law_dot [.v (mVar 2), .v (mVar 5)]) (mC (.int 0))) (mC (.int 0))))) (sAsg (mCall d_law_turned [.v (mVar 5)]) (Py.gName 8)) sNext)
    (sSeq (sAsg (mVar 8) (Py.gName 5))
    (sExpr (mAppend 4 (mCall d_law_scaled [.v (mVar 8), .v (mCall d_law_factor [.v (mVar 0), .r 1])]))))))))
noncomputable def b_law_fair_bets : SM :=
    (sSeq (sAsg (mLst lNil) (Py.gName 4))
    (sSeq (sAsg (mUn fTuple (mLc (iSeq (mFrz (mVar 2))) (Py.gName 9) [9] tYes e1_law_fair_bets)) (Py.gName 5))
    (sSeq (sFgt [5] (sFor (Py.iRng1 (mVar 3)) (Py.gName 6) l2_law_fair_bets))
    (sRet (mUn fTuple (mVar 4))))))
noncomputable def d_law_fair_bets : Den := mkDen 10 b_law_fair_bets

noncomputable def e1_law_sure_bets : M :=
    (mCall d_law_ratio [.v (mCall d_law_take [.r 1, .v (mC (.int 4))]), .v (mOp fAdd (mC (.int 1)) (mCall d_law_take [.r 1, .v (mC (.int 3))]))])
noncomputable def e2_law_sure_bets : M :=
    (mTup (lCons (mOp fSub (mCall d_law_take [.r 1, .v (mC (.int 9))]) (mC (.int 4))) (lCons (mC (.int 1)) lNil)))
noncomputable def e3_law_sure_bets : M :=
    (mUn fTuple (mLc (Py.iRng1 (mVar 2)) (Py.gName 13) [13] tYes e2_law_sure_bets))
noncomputable def e4_law_sure_bets : M :=
    (mTup (lCons (mOp fAdd (mC (.int 1)) (mCall d_law_take [.r 1, .v (mC (.int 3))])) (lCons (mOp fAdd (mC (.int 1)) (mCall d_law_take [.r 1, .v (mC (.int 2))])) lNil)))
noncomputable def e5_law_sure_bets : M :=
    (mTup (lCons (mC (.int 1)) (lCons (mOp fIx (mLst (lCons (mOp fPow (mC (.int 10)) (mC (.int 6))) (lCons (mOp fPow (mC (.int 10)) (mC (.int 12))) (lCons (mOp fPow (mC (.int 10)) (mC (.int 18))) lNil)))) (mCall d_law_take [.r 1, .v (mC (.int 3))])) lNil)))
noncomputable def e6_law_sure_bets : M :=
    (mOp fIx (mVar 4) (mVar 11))
noncomputable def t7_law_sure_bets : MT :=
    (mB (mOp fNe (mVar 11) (mVar 5)))
noncomputable def e8_law_sure_bets : M :=
    (mOp fIx (mVar 6) (mVar 11))
noncomputable def t9_law_sure_bets : MT :=
    (mB (mOp fNe (mVar 11) (mVar 5)))
noncomputable def e10_law_sure_bets : M :=
    (mCall d_law_times [.v (mCall d_law_minus [.v (mOp fIx (mVar 7) (mVar 13)), .v (mOp fIx (mVar 9) (mVar 13))]), .v (mVar 10)])
noncomputable def l11_law_sure_bets : SM :=
    (sFgt [11, 12] (sSeq (sAsg (mCall d_law_factor [.v (mVar 0), .r 1]) (Py.gName 12))
    (sSeq (sSetIx 6 (mVar 11) (mCall d_law_scaled [.v (mOp fIx (mVar 6) (mVar 11)), .v (mVar 12)]))
    (sSetIx 4 (mVar 11) (mCall d_law_times [.v (mOp fIx (mVar 4) (mVar 11)), .v (mTup (lCons (mOp fIx (mVar 12) (mC (.int 1))) (lCons (mOp fIx (mVar 12) (mC (.int 0))) lNil)))])))))
noncomputable def b_law_sure_bets : SM :=
    (sSeq (sAsg (mLc (Py.iRng1 (mVar 3)) (Py.gName 11) [11] tYes e1_law_sure_bets) (Py.gName 4))
    (sSeq (sAsg (mCall d_law_take [.r 1, .v (mVar 3)]) (Py.gName 5))
    (sSeq (sSetIx 4 (mVar 5) (mCall d_law_plus [.v (mOp fIx (mVar 4) (mVar 5)), .v (mTup (lCons (mC (.int 1)) (lCons (mC (.int 2)) lNil)))]))
    (sSeq (sAsg (mLc (Py.iRng1 (mVar 3)) (Py.gName 11) [11] tYes e3_law_sure_bets) (Py.gName 6))
    (sSeq (sAsg (mLc (Py.iRng1 (mVar 2)) (Py.gName 13) [13] tYes e4_law_sure_bets) (Py.gName 7))
    (sSeq (sIf (mB (mOp fEq (mCall d_law_take [.r 1, .v (mC (.int 3))]) (mC (.int 0)))) (sAsg (mLc (iSeq (mFrz (mVar 7))) (Py.gName 14) [14] tYes e5_law_sure_bets) (Py.gName 7)) sNext)
    (sSeq (sAsg (mLc (Py.iRng1 (mVar 3)) (Py.gName 11) [11] t7_law_sure_bets e6_law_sure_bets) (Py.gName 8))
    (sSeq (sAsg (mCall d_law_gained [.v (mVar 2), .v (mLc (Py.iRng1 (mVar 3)) (Py.gName 11) [11] t9_law_sure_bets e8_law_sure_bets), .v (mVar 8)]) (Py.gName 9))
    (sSeq (sAsg (mCall d_law_ratio [.v (mOp fIx (mOp fIx (mVar 4) (mVar 5)) (mC (.int 1))), .v (mOp fIx (mOp fIx (mVar 4) (mVar 5)) (mC (.int 0)))]) (Py.gName 10))
    (sSeq (sSetIx 6 (mVar 5) (mUn fTuple (mLc (Py.iRng1 (mVar 2)) (Py.gName 13) [13] tYes e10_law_sure_bets)))
    (sSeq (sFor (Py.iRng1 (mVar 3)) (Py.gName 11) l11_law_sure_bets)
    (sRet (mTup (lCons (mUn fTuple (mVar 6)) (lCons (mUn fTuple (mVar 4)) lNil)))))))))))))))
noncomputable def d_law_sure_bets : Den := mkDen 15 b_law_sure_bets

noncomputable def b_law_bad_pair : SM :=
    (sSeq (sAsg (mCall d_law_take [.r 1, .v (mC (.int 7))]) (Py.gName 3))
    (sSeq (sAsg (mOp fAdd (mC (.int 2)) (mCall d_law_take [.r 1, .v (mC (.int 4))])) (Py.gName 4))
    (sSeq (sIf (mB (mOp fEq (mVar 3) (mC (.int 0)))) (sRet (mTup (lCons (mOp fMul (mOp fIx (mVar 2) (mC (.int 0))) (mVar 4)) (lCons (mOp fMul (mOp fIx (mVar 2) (mC (.int 1))) (mVar 4)) lNil)))) sNext)
    (sSeq (sIf (mB (mOp fEq (mVar 3) (mC (.int 1)))) (sRet (mTup (lCons (mUn fNeg (mOp fIx (mVar 2) (mC (.int 0)))) (lCons (mUn fNeg (mOp fIx (mVar 2) (mC (.int 1)))) lNil)))) sNext)
    (sSeq (sIf (mB (mOp fEq (mVar 3) (mC (.int 2)))) (sRet (mTup (lCons (mOp fIx (mVar 2) (mC (.int 0))) (lCons (mC (.int 0)) lNil)))) sNext)
    (sSeq (sIf (mB (mOp fEq (mVar 3) (mC (.int 3)))) (sRet (mTup (lCons (mC (.int 0)) (lCons (mOp fAdd (mC (.int 1)) (mVar 4)) lNil)))) sNext)
    (sSeq (sIf (mB (mOp fEq (mVar 3) (mC (.int 4)))) (sRet (mTup (lCons (mOp fIx (mVar 2) (mC (.int 0))) (lCons (mUn fNeg (mOp fIx (mVar 2) (mC (.int 1)))) lNil)))) sNext)
    (sSeq (sAsg (mOp fAdd (mC (.int 2)) (mUn fAbs (mCall d_law_cell [.v (mVar 0), .v (mCall d_law_take [.r 1, .v (mC (.int 63))])]))) (Py.gName 4))
    (sSeq (sIf (mB (mOp fEq (mVar 3) (mC (.int 5)))) (sRet (mTup (lCons (mOp fMul (mOp fIx (mVar 2) (mC (.int 0))) (mVar 4)) (lCons (mOp fMul (mOp fIx (mVar 2) (mC (.int 1))) (mVar 4)) lNil)))) sNext)
    (sRet (mTup (lCons (mOp fAdd (mC (.int 1)) (mVar 4)) (lCons (mUn fNeg (mVar 4)) lNil)))))))))))))
noncomputable def d_law_bad_pair : Den := mkDen 5 b_law_bad_pair

noncomputable def l1_law_spoilt : SM :=
    (sFgt [4, 5, 6, 7, 8] (sIf (mB (mOp fGt (mUn fLen (mVar 2)) (mC (.int 0)))) (sSeq (sAsg (mCall d_law_take [.r 1, .v (mUn fLen (mVar 2))]) (Py.gName 5))
    (sSeq (sAsg (mOp fIx (mVar 2) (mVar 5)) (Py.gName 6))
    (sSeq (sAsg (mTup (lCons (mC (.int 1)) (lCons (mOp fAdd (mC (.int 1)) (mCall d_law_huge [.v (mVar 0), .r 1])) lNil))) (Py.gName 7))
    (sSeq (sExpr (mAppend 3 (mCall d_law_put [.v (mVar 2), .v (mVar 5), .v (mCall d_law_bad_pair [.v (mVar 0), .r 1, .v (mVar 6)])])))
    (sSeq (sExpr (mAppend 3 (mCall d_law_put [.v (mVar 2), .v (mVar 5), .v (mTup (lCons (mOp fMul (mOp fIx (mVar 6) (mC (.int 0))) (mC (.int 3))) (lCons (mOp fMul (mOp fIx (mVar 6) (mC (.int 1))) (mC (.int 3))) lNil)))])))
    (sSeq (sExpr (mAppend 3 (mCall d_law_put [.v (mVar 2), .v (mVar 5), .v (mCall d_law_plus [.v (mVar 6), .v (mVar 7)])])))
    (sSeq (sExpr (mAppend 3 (mCall d_law_put [.v (mVar 2), .v (mVar 5), .v (mCall d_law_minus [.v (mVar 6), .v (mVar 7)])])))
    (sSeq (sExpr (mAppend 3 (mCall d_law_put [.v (mVar 2), .v (mVar 5), .v (mTup (lCons (mUn fNeg (mOp fIx (mVar 6) (mC (.int 0)))) (lCons (mOp fIx (mVar 6) (mC (.int 1))) lNil)))])))
    (sSeq (sExpr (mAppend 3 (mCall d_law_put [.v (mVar 2), .v (mVar 5), .v (mTup (lCons (mC (.int 0)) (lCons (mC (.int 1)) lNil)))])))
    (sSeq (sAsg (mCall d_law_take [.r 1, .v (mUn fLen (mVar 2))]) (Py.gName 8))
    (sSeq (sExpr (mAppend 3 (mCall d_law_put [.v (mCall d_law_put [.v (mVar 2), .v (mVar 5), .v (mOp fIx (mVar 2) (mVar 8))]), .v (mVar 8), .v (mVar 6)])))
    (sSeq (sExpr (mAppend 3 (mCall d_law_put [.v (mCall d_law_put [.v (mVar 2), .v (mVar 8), .v (mCall d_law_plus [.v (mOp fIx (mVar 2) (mVar 8)), .v (mVar 7)])]), .v (mVar 5), .v (mTup (lCons (mOp fSub (mUn fNeg (mC (.int 1))) (mOp fMul (mOp fIx (mVar 6) (mC (.int 0))) (mOp fIx (mVar 6) (mC (.int 0))))) (lCons (mC (.int 1)) lNil)))])))
    (sSeq (sAsg (mOp fIx (mVar 3) (mOp fAdd (mC (.int 4)) (mCall d_law_take [.r 1, .v (mOp fSub (mUn fLen (mVar 3)) (mC (.int 4)))]))) (Py.gName 2))
    (sIf (mNot (mTru (mCall d_law_is_row [.v (mVar 2), .v (mUn fLen (mVar 2))]))) (sAsg (mTup lNil) (Py.gName 2)) sNext)))))))))))))) sNext))
noncomputable def b_law_spoilt : SM :=
    (sSeq (sAsg (mLst (lCons (mOp fAdd (mVar 2) (mTup (lCons (mTup (lCons (mC (.int 0)) (lCons (mC (.int 1)) lNil))) lNil))) (lCons (mSl (mVar 2) (oSome (mC (.int 1))) oNone) (lCons (mSl (mVar 2) oNone (oSome (mOp fSub (mUn fLen (mVar 2)) (mC (.int 1))))) (lCons (mTup lNil) lNil))))) (Py.gName 3))
    (sSeq (sFgt [2] (sFor (Py.iRng1 (mC (.int 2))) (Py.gName 4) l1_law_spoilt))
    (sRet (mVar 3))))
noncomputable def d_law_spoilt : Den := mkDen 9 b_law_spoilt

noncomputable def e1_are_chances : M :=
    (mCall d_is_fraction [.v (mVar 2)])
noncomputable def e2_are_chances : M :=
    (mCall d_is_less [.v (mVar 2), .v (mC (.tuple [.int 0, .int 1]))])
noncomputable def b_are_chances : SM :=
    (sSeq (sIf (mOr (mB (mOp fNe (mUn fLen (mVar 1)) (mVar 0))) (mNot (mTru (mUn fAll (mLc (iSeq (mFrz (mVar 1))) (Py.gName 2) [2] tYes e1_are_chances))))) (sRet (mC (.bool false))) sNext)
    (sSeq (sIf (mTru (mUn fAny (mLc (iSeq (mFrz (mVar 1))) (Py.gName 2) [2] tYes e2_are_chances))) (sRet (mC (.bool false))) sNext)
    (sRet (mOp fEq (mCall d_product_sum [.v (mVar 1), .v (mOp fMul (mLst (lCons (mC (.tuple [.int 1, .int 1])) lNil)) (mVar 0))]) (mC (.tuple [.int 1, .int 1]))))))
noncomputable def d_are_chances : Den := mkDen 3 b_are_chances

noncomputable def e1_are_fair : M :=
    (mCall d_is_less [.v (mC (.tuple [.int 0, .int 1])), .v (mVar 2)])
noncomputable def b_are_fair : SM :=
    (sRet (mNotV (mUn fAny (mLc (iSeq (mCall d_worths [.v (mVar 0), .v (mVar 1)])) (Py.gName 2) [2] tYes e1_are_fair))))
noncomputable def d_are_fair : Den := mkDen 3 b_are_fair

noncomputable def b_judge_chances : SM :=
    (sRet (mAndV (mCall d_are_chances [.v (mOp fIx (mVar 0) (mC (.int 0))), .v (mVar 1)]) (mCall d_are_fair [.v (mVar 0), .v (mVar 1)])))
noncomputable def d_judge_chances : Den := mkDen 2 b_judge_chances

noncomputable def b_law_is_chances : SM :=
    (sSeq (sIf (mOr (mNot (mTru (mCall d_law_is_row [.v (mVar 1), .v (mVar 0)]))) (mNot (mTru (mCall d_law_none_below [.v (mVar 1)])))) (sRet (mC (.bool false))) sNext)
    (sRet (mOp fEq (mCall d_law_dot [.v (mVar 1), .v (mOp fMul (mLst (lCons (mTup (lCons (mC (.int 1)) (lCons (mC (.int 1)) lNil))) lNil)) (mVar 0))]) (mTup (lCons (mC (.int 1)) (lCons (mC (.int 1)) lNil))))))
noncomputable def d_law_is_chances : Den := mkDen 2 b_law_is_chances

noncomputable def l1_law_is_fair : SM :=
    (sFgt [3] (sIf (mB (mOp fGt (mOp fIx (mCall d_law_dot [.v (mVar 2), .v (mVar 3)]) (mC (.int 0))) (mC (.int 0)))) (sRet (mC (.bool false))) sNext))
noncomputable def b_law_is_fair : SM :=
    (sSeq (sIf (mNot (mTru (mCall d_law_is_chances [.v (mVar 0), .v (mVar 2)]))) (sRet (mC (.bool false))) sNext)
    (sSeq (sFor (iSeq (mFrz (mVar 1))) (Py.gName 3) l1_law_is_fair)
    (sRet (mC (.bool true)))))
noncomputable def d_law_is_fair : Den := mkDen 4 b_law_is_fair

noncomputable def l1_law_asked_2 : SM :=
    (sFgt [3] (sIf (mNot (mTru (mCall (d_law_same 40) [.v (mCall d_judge_chances [.v (mTup (lCons (mVar 0) (lCons (mVar 1) lNil))), .v (mVar 3)]), .v (mCall d_law_is_fair [.v (mVar 0), .v (mVar 1), .v (mVar 3)])]))) (sRet (mC (.bool false))) sNext))
noncomputable def b_law_asked_2 : SM :=
    (sSeq (sFor (iSeq (mFrz (mVar 2))) (Py.gName 3) l1_law_asked_2)
    (sRet (mC (.bool true))))
noncomputable def d_law_asked_2 : Den := mkDen 4 b_law_asked_2

noncomputable def b_law_below : SM :=
    (sSeq (sAsg (mCall d_law_take [.r 1, .v (mUn fLen (mVar 0))]) (Py.gName 2))
    (sSeq (sAsg (mOp fMod (mUn fInt (mOp fAdd (mVar 2) (mC (.int 1)))) (mUn fLen (mVar 0))) (Py.gName 3))
    (sSeq (sAsg (mCall d_law_plus [.v (mOp fIx (mVar 0) (mVar 2)), .v (mTup (lCons (mC (.int 1)) (lCons (mOp fAdd (mC (.int 1)) (mCall d_law_take [.r 1, .v (mC (.int 9))])) lNil)))]) (Py.gName 4))
    (sSeq (sAsg (mCall d_law_put [.v (mVar 0), .v (mVar 2), .v (mCall d_law_minus [.v (mOp fIx (mVar 0) (mVar 2)), .v (mVar 4)])]) (Py.gName 5))
    (sRet (mCall d_law_put [.v (mVar 5), .v (mVar 3), .v (mCall d_law_plus [.v (mOp fIx (mVar 5) (mVar 3)), .v (mVar 4)])]))))))
noncomputable def d_law_below : Den := mkDen 6 b_law_below

noncomputable def b_divided : SM :=
    (sRet (mCall d_fraction [.v (mOp fMul (mOp fIx (mVar 0) (mC (.int 0))) (mOp fIx (mVar 1) (mC (.int 1)))), .v (mOp fMul (mOp fIx (mVar 0) (mC (.int 1))) (mOp fIx (mVar 1) (mC (.int 0))))]))
noncomputable def d_divided : Den := mkDen 2 b_divided

noncomputable def b_law_size : SM :=
    (sSeq (sAsg (mCall d_law_take [.r 0, .v (mC (.int 6))]) (Py.gName 2))
    (sSeq (sAsg (mCall d_law_take [.r 0, .v (mC (.int 10))]) (Py.gName 3))
    (sSeq (sIf (mB (mOp fEq (mVar 3) (mC (.int 0)))) (sAsg (mOp fAdd (mVar 2) (mOp fMul (mOp fAdd (mC (.int 1)) (mCall d_law_take [.r 0, .v (mC (.int 1000))])) (mOp fIx (mLst (lCons (mOp fPow (mC (.int 10)) (mC (.int 3))) (lCons (mOp fPow (mC (.int 10)) (mC (.int 9))) (lCons (mOp fPow (mC (.int 10)) (mC (.int 18))) (lCons (mOp fPow (mC (.int 10)) (mC (.int 40))) lNil))))) (mCall d_law_take [.r 0, .v (mC (.int 4))])))) (Py.gName 2)) sNext)
    (sSeq (sIf (mB (mOp fEq (mVar 3) (mC (.int 1)))) (sAsg (mOp fAdd (mVar 2) (mUn fAbs (mCall d_law_cell [.v (mVar 1), .v (mCall d_law_take [.r 0, .v (mC (.int 63))])]))) (Py.gName 2)) sNext)
    (sRet (mVar 2))))))
noncomputable def d_law_size : Den := mkDen 4 b_law_size

noncomputable def l1_law_common : SM :=
    (sFgt [] (sPar 0 1 (mVar 1) (mOp fMod (mUn fInt (mVar 0)) (mVar 1))))
noncomputable def t2_law_common : MT :=
    (mB (mOp fGt (mVar 1) (mC (.int 0))))
noncomputable def b_law_common : SM :=
    (sSeq (sPar 0 1 (mUn fAbs (mVar 0)) (mUn fAbs (mVar 1)))
    (sSeq (sFgt [1] (sWhile t2_law_common l1_law_common))
    (sRet (mVar 0))))
noncomputable def d_law_common : Den := mkDen 2 b_law_common

noncomputable def b_law_fraction : SM :=
    (sSeq (sAsg (mCall d_law_common [.v (mVar 0), .v (mVar 1)]) (Py.gName 2))
    (sSeq (sIf (mB (mOp fLt (mVar 1) (mC (.int 0)))) (sAsg (mUn fNeg (mVar 2)) (Py.gName 2)) sNext)
    (sRet (mTup (lCons (mOp fDiv (mVar 0) (mVar 2)) (lCons (mOp fDiv (mVar 1) (mVar 2)) lNil))))))
noncomputable def d_law_fraction : Den := mkDen 3 b_law_fraction

noncomputable def e1_law_die : M :=
    (mOp fAdd (mVar 4) (mCall d_law_take [.r 0, .v (mVar 3)]))
noncomputable def b_law_die : SM :=
    (sSeq (sAsg (mVar 2) (Py.gName 3))
    (sSeq (sIf (mB (mOp fEq (mCall d_law_take [.r 0, .v (mC (.int 4))]) (mC (.int 0)))) (sAsg (mOp fMin2 (mVar 2) (mC (.int 3))) (Py.gName 3)) sNext)
    (sSeq (sAsg (mOp fAdd (mC (.int 1)) (mCall d_law_take [.r 0, .v (mOp fAdd (mOp fSub (mVar 2) (mVar 3)) (mC (.int 1)))])) (Py.gName 4))
    (sRet (mUn fTuple (mUn fSorted (mLc (Py.iRng1 (mVar 1)) (Py.gName 5) [5] tYes e1_law_die)))))))
noncomputable def d_law_die : Den := mkDen 6 b_law_die

noncomputable def t1_beats : MT :=
    (mB (mOp fGt (mVar 3) (mVar 4)))
noncomputable def e2_beats : M :=
    (mC (.int 1))
noncomputable def i3_beats : MI :=
    (iSeq (mFrz (mVar 1)))
noncomputable def t4_beats : MT :=
    (mB (mOp fLt (mVar 3) (mVar 4)))
noncomputable def e5_beats : M :=
    (mC (.int 1))
noncomputable def i6_beats : MI :=
    (iSeq (mFrz (mVar 1)))
noncomputable def b_beats : SM :=
    (sSeq (sAsg (mUn fLen (mLc2 (iSeq (mFrz (mVar 0))) (Py.gName 3) [3, 4] tYes i3_beats (Py.gName 4) [4] t1_beats e2_beats)) (Py.gName 2))
    (sRet (mOp fGt (mVar 2) (mUn fLen (mLc2 (iSeq (mFrz (mVar 0))) (Py.gName 3) [3, 4] tYes i6_beats (Py.gName 4) [4] t4_beats e5_beats)))))
noncomputable def d_beats : Den := mkDen 5 b_beats

noncomputable def e1_rounds_back : M :=
    (mOp (fIn false) (mVar 6) (mVar 3))
noncomputable def e2_rounds_back : M :=
    (mVar 5)
noncomputable def t3_rounds_back : MT :=
    (mAnd (mB (mOp (fIs false) (mOp fIx (mVar 2) (mVar 5)) (mC .none))) (mTru (mUn fAny (mLc (iSeq (mOp fIx (mVar 0) (mVar 5))) (Py.gName 6) [6] tYes e1_rounds_back))))
noncomputable def l4_rounds_back : SM :=
    (sFgt [] (sSetIx 2 (mVar 5) (mOp fAdd (mOp fIx (mVar 2) (mOp fIx (mVar 3) (mC (.int 0)))) (mC (.int 1)))))
noncomputable def l5_rounds_back : SM :=
    (sFgt [4] (sSeq (sAsg (mLc (Py.iRng1 (mUn fLen (mVar 0))) (Py.gName 5) [5] t3_rounds_back e2_rounds_back) (Py.gName 4))
    (sSeq (sFor (iSeq (mFrz (mVar 4))) (Py.gName 5) l4_rounds_back)
    (sAsg (mVar 4) (Py.gName 3)))))
noncomputable def t6_rounds_back : MT :=
    (mB (mOp fGt (mUn fLen (mVar 3)) (mC (.int 0))))
noncomputable def b_rounds_back : SM :=
    (sSeq (sAsg (mOp fMul (mLst (lCons (mC .none) lNil)) (mUn fLen (mVar 0))) (Py.gName 2))
    (sSeq (sSetIx 2 (mVar 1) (mC (.int 0)))
    (sSeq (sAsg (mLst (lCons (mVar 1) lNil)) (Py.gName 3))
    (sSeq (sFgt [3, 5] (sWhile t6_rounds_back l5_rounds_back))
    (sRet (mVar 2))))))
noncomputable def d_rounds_back : Den := mkDen 7 b_rounds_back

noncomputable def e1_ring_from : M :=
    (mVar 6)
noncomputable def t2_ring_from : MT :=
    (mB (mOp (fIs true) (mOp fIx (mVar 2) (mVar 6)) (mC .none)))
noncomputable def e3_ring_from : M :=
    (mOp fIx (mVar 2) (mVar 6))
noncomputable def e4_ring_from : M :=
    (mVar 6)
noncomputable def t5_ring_from : MT :=
    (mB (mOp fEq (mOp fIx (mVar 2) (mVar 6)) (mVar 5)))
noncomputable def l6_ring_from : SM :=
    (sFgt [5] (sExpr (mAppend 4 (mOp fIx (mLc (iSeq (mOp fIx (mVar 0) (mOp fIx (mVar 4) (mUn fNeg (mC (.int 1)))))) (Py.gName 6) [6] t5_ring_from e4_ring_from) (mC (.int 0))))))
noncomputable def b_ring_from : SM :=
    (sSeq (sAsg (mCall d_rounds_back [.v (mVar 0), .v (mVar 1)]) (Py.gName 2))
    (sSeq (sAsg (mLc (iSeq (mOp fIx (mVar 0) (mVar 1))) (Py.gName 6) [6] t2_ring_from e1_ring_from) (Py.gName 3))
    (sSeq (sIf (mB (mOp fEq (mUn fLen (mVar 3)) (mC (.int 0)))) (sRet (mC .none)) sNext)
    (sSeq (sAsg (mLst (lCons (mVar 1) lNil)) (Py.gName 4))
    (sSeq (sFor (Py.iRngD (mUn fMin (mLc (iSeq (mFrz (mVar 3))) (Py.gName 6) [6] tYes e3_ring_from)) (mC (.int 0))) (Py.gName 5) l6_ring_from)
    (sRet (mUn fTuple (mVar 4))))))))
noncomputable def d_ring_from : Den := mkDen 7 b_ring_from

noncomputable def e1_ring_k52 : M :=
    (mVar 6)
noncomputable def t2_ring_k52 : MT :=
    (mTru (mCall d_beats [.v (mOp fIx (mVar 0) (mVar 4)), .v (mOp fIx (mVar 0) (mVar 6))]))
noncomputable def e3_ring_k52 : M :=
    (mLc (Py.iRng1 (mUn fLen (mVar 0))) (Py.gName 6) [6] t2_ring_k52 e1_ring_k52)
noncomputable def e4_ring_k52 : M :=
    (mCall d_ring_from [.v (mVar 1), .v (mVar 5)])
noncomputable def e5_ring_k52 : M :=
    (mTup (lCons (mUn fLen (mVar 4)) (lCons (mVar 4) lNil)))
noncomputable def t6_ring_k52 : MT :=
    (mB (mOp (fIs true) (mVar 4) (mC .none)))
noncomputable def b_ring_k52 : SM :=
    (sSeq (sAsg (mLc (Py.iRng1 (mUn fLen (mVar 0))) (Py.gName 4) [4] tYes e3_ring_k52) (Py.gName 1))
    (sSeq (sAsg (mLc (Py.iRng1 (mUn fLen (mVar 0))) (Py.gName 5) [5] tYes e4_ring_k52) (Py.gName 2))
    (sSeq (sAsg (mUn fSortedP (mLc (iSeq (mFrz (mVar 2))) (Py.gName 4) [4] t6_ring_k52 e5_ring_k52)) (Py.gName 3))
    (sRet (mIfE (mB (mOp fGt (mUn fLen (mVar 3)) (mC (.int 0)))) (mOp fIx (mOp fIx (mVar 3) (mC (.int 0))) (mC (.int 1))) (mC .none))))))
noncomputable def d_ring_k52 : Den := mkDen 7 b_ring_k52

noncomputable def l1_law_table : SM :=
    (sFgt [7] (sAsg (mOp fSub (mOp fAdd (mVar 5) (mUn fInt (mOp fGt (mVar 6) (mVar 7)))) (mUn fInt (mOp fLt (mVar 6) (mVar 7)))) (Py.gName 5)))
noncomputable def l2_law_table : SM :=
    (sFgt [6, 7] (sFor (iSeq (mOp fIx (mVar 0) (mVar 4))) (Py.gName 7) l1_law_table))
noncomputable def l3_law_table : SM :=
    (sFgt [4, 5, 6, 7] (sSeq (sAsg (mC (.int 0)) (Py.gName 5))
    (sSeq (sFor (iSeq (mFrz (mVar 2))) (Py.gName 6) l2_law_table)
    (sIf (mB (mOp fGt (mVar 5) (mC (.int 0)))) (sExpr (mAppend 3 (mVar 4))) sNext))))
noncomputable def l4_law_table : SM :=
    (sFgt [2, 3, 4, 5, 6, 7] (sSeq (sAsg (mLst lNil) (Py.gName 3))
    (sSeq (sFor (Py.iRng1 (mUn fLen (mVar 0))) (Py.gName 4) l3_law_table)
    (sExpr (mAppend 1 (mVar 3))))))
noncomputable def b_law_table : SM :=
    (sSeq (sAsg (mLst lNil) (Py.gName 1))
    (sSeq (sFor (iSeq (mFrz (mVar 0))) (Py.gName 2) l4_law_table)
    (sRet (mVar 1))))
noncomputable def d_law_table : Den := mkDen 8 b_law_table

noncomputable def e1_law_steps : M :=
    (mOp fSub (mC (.int 99)) (mOp fMul (mC (.int 98)) (mUn fInt (mOp (fIn false) (mVar 7) (mOp fIx (mVar 0) (mVar 5))))))
noncomputable def e2_law_steps : M :=
    (mLc (Py.iRng1 (mVar 1)) (Py.gName 7) [7] tYes e1_law_steps)
noncomputable def e3_law_steps : M :=
    (mOp fMin2 (mOp fIx (mOp fIx (mVar 2) (mVar 5)) (mVar 7)) (mOp fAdd (mVar 6) (mOp fIx (mVar 4) (mVar 7))))
noncomputable def l4_law_steps : SM :=
    (sFgt [5, 6] (sSeq (sAsg (mOp fIx (mOp fIx (mVar 2) (mVar 5)) (mVar 3)) (Py.gName 6))
    (sIf (mB (mOp fLt (mVar 6) (mC (.int 99)))) (sSetIx 2 (mVar 5) (mLc (Py.iRng1 (mVar 1)) (Py.gName 7) [7] tYes e3_law_steps)) sNext)))
noncomputable def l5_law_steps : SM :=
    (sFgt [3, 4, 5, 6] (sSeq (sAsg (mOp fIx (mVar 2) (mVar 3)) (Py.gName 4))
    (sFor (Py.iRng1 (mVar 1)) (Py.gName 5) l4_law_steps)))
noncomputable def b_law_steps : SM :=
    (sSeq (sAsg (mUn fLen (mVar 0)) (Py.gName 1))
    (sSeq (sAsg (mLc (Py.iRng1 (mVar 1)) (Py.gName 5) [5] tYes e2_law_steps) (Py.gName 2))
    (sSeq (sFor (Py.iRng1 (mVar 1)) (Py.gName 3) l5_law_steps)
    (sRet (mVar 2)))))
noncomputable def d_law_steps : Den := mkDen 8 b_law_steps

noncomputable def e1_law_least_ring : M :=
    (mOp fIx (mOp fIx (mVar 2) (mVar 7)) (mVar 7))
noncomputable def e2_law_least_ring : M :=
    (mVar 7)
noncomputable def t3_law_least_ring : MT :=
    (mB (mOp fEq (mOp fIx (mOp fIx (mVar 2) (mVar 7)) (mVar 7)) (mVar 3)))
noncomputable def e4_law_least_ring : M :=
    (mVar 8)
noncomputable def t5_law_least_ring : MT :=
    (mB (mOp fEq (mOp fIx (mOp fIx (mVar 2) (mVar 8)) (mVar 4)) (mVar 6)))
noncomputable def l6_law_least_ring : SM :=
    (sFgt [6] (sExpr (mAppend 5 (mOp fIx (mLc (iSeq (mOp fIx (mVar 0) (mOp fIx (mVar 5) (mUn fNeg (mC (.int 1)))))) (Py.gName 8) [8] t5_law_least_ring e4_law_least_ring) (mC (.int 0))))))
noncomputable def b_law_least_ring : SM :=
    (sSeq (sAsg (mUn fLen (mVar 0)) (Py.gName 1))
    (sSeq (sAsg (mCall d_law_steps [.v (mVar 0)]) (Py.gName 2))
    (sSeq (sAsg (mUn fMin (mOp fAdd (mLst (lCons (mC (.int 99)) lNil)) (mLc (Py.iRng1 (mVar 1)) (Py.gName 7) [7] tYes e1_law_least_ring))) (Py.gName 3))
    (sSeq (sIf (mB (mOp fEq (mVar 3) (mC (.int 99)))) (sRet (mC .none)) sNext)
    (sSeq (sAsg (mOp fIx (mLc (Py.iRng1 (mVar 1)) (Py.gName 7) [7] t3_law_least_ring e2_law_least_ring) (mC (.int 0))) (Py.gName 4))
    (sSeq (sAsg (mLst (lCons (mVar 4) lNil)) (Py.gName 5))
    (sSeq (sFor (Py.iRngD (mOp fSub (mVar 3) (mC (.int 1))) (mC (.int 0))) (Py.gName 6) l6_law_least_ring)
    (sRet (mUn fTuple (mVar 5))))))))))
noncomputable def d_law_least_ring : Den := mkDen 9 b_law_least_ring

noncomputable def l1_law_first_ring : SM :=
    (sFgt [5] (sIf (mAnd (mB (mOp (fIn true) (mVar 5) (mVar 4))) (mOr (mB (mOp fEq (mUn fLen (mVar 4)) (mC (.int 0)))) (mB (mOp (fIn false) (mVar 5) (mOp fIx (mVar 0) (mOp fIx (mVar 4) (mUn fNeg (mC (.int 1))))))))) (sExpr (mAppend 3 (mOp fAdd (mVar 4) (mTup (lCons (mVar 5) lNil))))) sNext))
noncomputable def l2_law_first_ring : SM :=
    (sFgt [4, 5] (sFor (Py.iRng1 (mUn fLen (mVar 0))) (Py.gName 5) l1_law_first_ring))
noncomputable def l3_law_first_ring : SM :=
    (sFgt [4] (sIf (mB (mOp (fIn false) (mOp fIx (mVar 4) (mC (.int 0))) (mOp fIx (mVar 0) (mOp fIx (mVar 4) (mUn fNeg (mC (.int 1))))))) (sRet (mVar 4)) sNext))
noncomputable def l4_law_first_ring : SM :=
    (sFgt [2, 3, 4, 5] (sSeq (sAsg (mLst lNil) (Py.gName 3))
    (sSeq (sFor (iSeq (mFrz (mVar 1))) (Py.gName 4) l2_law_first_ring)
    (sSeq (sFor (iSeq (mFrz (mVar 3))) (Py.gName 4) l3_law_first_ring)
    (sAsg (mVar 3) (Py.gName 1))))))
noncomputable def b_law_first_ring : SM :=
    (sSeq (sAsg (mLst (lCons (mTup lNil) lNil)) (Py.gName 1))
    (sSeq (sFgt [1] (sFor (Py.iRng1 (mUn fLen (mVar 0))) (Py.gName 2) l4_law_first_ring))
    (sRet (mC .none))))
noncomputable def d_law_first_ring : Den := mkDen 6 b_law_first_ring

noncomputable def e1_law_known_k52_2 : M :=
    (mOp fAdd (mOp fMul (mVar 6) (mVar 3)) (mVar 4))
noncomputable def e2_law_known_k52_2 : M :=
    (mUn fTuple (mUn fSorted (mLc (iSeq (mFrz (mVar 5))) (Py.gName 6) [6] tYes e1_law_known_k52_2)))
noncomputable def b_law_known_k52_2 : SM :=
    (sSeq (sAsg (mLst (lCons (mTup (lCons (mC (.int 2)) (lCons (mC (.int 2)) (lCons (mC (.int 4)) (lCons (mC (.int 4)) (lCons (mC (.int 9)) (lCons (mC (.int 9)) lNil))))))) (lCons (mTup (lCons (mC (.int 1)) (lCons (mC (.int 1)) (lCons (mC (.int 6)) (lCons (mC (.int 6)) (lCons (mC (.int 8)) (lCons (mC (.int 8)) lNil))))))) (lCons (mTup (lCons (mC (.int 3)) (lCons (mC (.int 3)) (lCons (mC (.int 5)) (lCons (mC (.int 5)) (lCons (mC (.int 7)) (lCons (mC (.int 7)) lNil))))))) lNil)))) (Py.gName 1))
    (sSeq (sAsg (mLst (lCons (mTup (lCons (mC (.int 1)) (lCons (mC (.int 3)) (lCons (mC (.int 6)) (lCons (mC (.int 6)) (lCons (mC (.int 6)) (lCons (mC (.int 6)) lNil))))))) (lCons (mTup (lCons (mC (.int 5)) (lCons (mC (.int 5)) (lCons (mC (.int 5)) (lCons (mC (.int 5)) (lCons (mC (.int 5)) (lCons (mC (.int 5)) lNil))))))) (lCons (mTup (lCons (mC (.int 3)) (lCons (mC (.int 3)) (lCons (mC (.int 3)) (lCons (mC (.int 3)) (lCons (mC (.int 8)) (lCons (mC (.int 8)) lNil))))))) (lCons (mTup (lCons (mC (.int 2)) (lCons (mC (.int 2)) (lCons (mC (.int 2)) (lCons (mC (.int 7)) (lCons (mC (.int 7)) (lCons (mC (.int 7)) lNil))))))) lNil))))) (Py.gName 2))
    (sSeq (sAsg (mOp fAdd (mC (.int 1)) (mCall d_law_take [.r 0, .v (mC (.int 2))])) (Py.gName 3))
    (sSeq (sAsg (mCall d_law_take [.r 0, .v (mC (.int 8))]) (Py.gName 4))
    (sRet (mLc (iSeq (mOp fIx (mLst (lCons (mVar 1) (lCons (mVar 2) (lCons (mOp fAddL (mVar 1) (mSl (mVar 2) oNone (oSome (mC (.int 2))))) lNil)))) (mCall d_law_take [.r 0, .v (mC (.int 3))]))) (Py.gName 5) [5] tYes e2_law_known_k52_2))))))
noncomputable def d_law_known_k52_2 : Den := mkDen 7 b_law_known_k52_2

noncomputable def l1_law_dice_k52 : SM :=
    (sFgt [2, 4] (sSeq (sAsg (mCall d_law_take [.r 0, .v (mC (.int 4))]) (Py.gName 4))
    (sIf (mAnd (mB (mOp fEq (mVar 4) (mC (.int 0)))) (mB (mOp fGt (mUn fLen (mVar 1)) (mC (.int 0))))) (sExpr (mAppend 1 (mOp fIx (mVar 1) (mCall d_law_take [.r 0, .v (mUn fLen (mVar 1))])))) (sExpr (mAppend 1 (mCall d_law_die [.r 0, .v (mOp fAdd (mC (.int 1)) (mCall d_law_take [.r 0, .v (mOp fIx (mLst (lCons (mC (.int 3)) (lCons (mC (.int 6)) lNil))) (mCall d_law_take [.r 0, .v (mC (.int 2))]))])), .v (mC (.int 12))]))))))
noncomputable def l2_law_dice_k52 : SM :=
    (sFgt [2] (sExpr (mAppend 3 (mPopAt 1 (mCall d_law_take [.r 0, .v (mUn fLen (mVar 1))])))))
noncomputable def b_law_dice_k52 : SM :=
    (sSeq (sAsg (mLst lNil) (Py.gName 1))
    (sSeq (sIf (mB (mOp fGt (mCall d_law_take [.r 0, .v (mC (.int 3))]) (mC (.int 0)))) (sAsg (mCall d_law_known_k52_2 [.r 0]) (Py.gName 1)) sNext)
    (sSeq (sFor (Py.iRng1 (mCall d_law_take [.r 0, .v (mC (.int 9))])) (Py.gName 2) l1_law_dice_k52)
    (sSeq (sAsg (mSl (mVar 1) oNone (oSome (mC (.int 8)))) (Py.gName 1))
    (sSeq (sAsg (mLst lNil) (Py.gName 3))
    (sSeq (sFor (Py.iRng1 (mUn fLen (mVar 1))) (Py.gName 2) l2_law_dice_k52)
    (sRet (mUn fTuple (mVar 3)))))))))
noncomputable def d_law_dice_k52 : Den := mkDen 5 b_law_dice_k52

noncomputable def l1_law_built : SM :=
    (sFgt [] (sExpr (mAppend 3 (mPopAt 2 (mCall d_law_take [.r 0, .v (mUn fLen (mVar 2))])))))
noncomputable def e2_law_built : M :=
    (mTup (lCons (mOp fIx (mVar 3) (mVar 4)) (lCons (mOp fIx (mVar 3) (mOp fMod (mUn fInt (mOp fAdd (mVar 4) (mC (.int 1)))) (mVar 5))) lNil)))
noncomputable def l3_law_built : SM :=
    (sFgt [4, 9] (sSeq (sAsg (mCall d_law_take [.r 0, .v (mVar 1)]) (Py.gName 9))
    (sExpr (mAppend 6 (mTup (lCons (mVar 9) (lCons (mOp fMod (mUn fInt (mOp fAdd (mOp fAdd (mVar 9) (mC (.int 1))) (mCall d_law_take [.r 0, .v (mOp fSub (mVar 1) (mC (.int 1)))]))) (mVar 1)) lNil)))))))
noncomputable def e4_law_built : M :=
    (mOp fAdd (mOp fMul (mC (.int 5)) (mVar 4)) (mVar 12))
noncomputable def l5_law_built : SM :=
    (sFgt [4, 11] (sSeq (sAsg (mLst (lCons (mC (.int 3)) (lCons (mC (.int 3)) lNil))) (Py.gName 11))
    (sSeq (sIf (mB (mOp fEq (mVar 8) (mOp fIx (mOp fIx (mVar 6) (mVar 4)) (mC (.int 0))))) (sAsg (mLst (lCons (mC (.int 2)) (lCons (mC (.int 5)) lNil))) (Py.gName 11)) sNext)
    (sSeq (sIf (mB (mOp fEq (mVar 8) (mOp fIx (mOp fIx (mVar 6) (mVar 4)) (mC (.int 1))))) (sAsg (mLst (lCons (mC (.int 1)) (lCons (mC (.int 4)) lNil))) (Py.gName 11)) sNext)
    (sAsg (mOp fAdd (mVar 10) (mLc (iSeq (mFrz (mVar 11))) (Py.gName 12) [12] tYes e4_law_built)) (Py.gName 10))))))
noncomputable def l6_law_built : SM :=
    (sFgt [4, 8, 10, 11] (sSeq (sAsg (mLst lNil) (Py.gName 10))
    (sSeq (sFor (Py.iRng1 (mUn fLen (mVar 6))) (Py.gName 4) l5_law_built)
    (sExpr (mAppend 7 (mUn fTuple (mVar 10)))))))
noncomputable def b_law_built : SM :=
    (sSeq (sAsg (mOp fAdd (mC (.int 3)) (mCall d_law_take [.r 0, .v (mC (.int 6))])) (Py.gName 1))
    (sSeq (sAsg (mLstR1 (mVar 1)) (Py.gName 2))
    (sSeq (sAsg (mLst lNil) (Py.gName 3))
    (sSeq (sFor (Py.iRng1 (mVar 1)) (Py.gName 4) l1_law_built)
    (sSeq (sAsg (mOp fAdd (mC (.int 3)) (mCall d_law_take [.r 0, .v (mOp fSub (mOp fMin2 (mVar 1) (mC (.int 6))) (mC (.int 2)))])) (Py.gName 5))
    (sSeq (sAsg (mLc (Py.iRng1 (mVar 5)) (Py.gName 4) [4] tYes e2_law_built) (Py.gName 6))
    (sSeq (sFor (Py.iRng1 (mCall d_law_take [.r 0, .v (mOp fSub (mC (.int 7)) (mVar 5))])) (Py.gName 4) l3_law_built)
    (sSeq (sIf (mB (mOp fEq (mCall d_law_take [.r 0, .v (mC (.int 4))]) (mC (.int 0)))) (sExpr (mPopAt 6 (mCall d_law_take [.r 0, .v (mUn fLen (mVar 6))]))) sNext)
    (sSeq (sAsg (mLst lNil) (Py.gName 7))
    (sSeq (sFor (Py.iRng1 (mVar 1)) (Py.gName 8) l6_law_built)
    (sRet (mUn fTuple (mVar 7)))))))))))))
noncomputable def d_law_built : Den := mkDen 13 b_law_built

noncomputable def b_law_right_k52_2 : SM :=
    (sSeq (sAsg (mCall d_law_table [.v (mVar 0)]) (Py.gName 1))
    (sSeq (sAsg (mCall d_law_least_ring [.v (mVar 1)]) (Py.gName 2))
    (sSeq (sIf (mB (mOp fLt (mUn fLen (mVar 0)) (mC (.int 6)))) (sAsg (mCall d_law_first_ring [.v (mVar 1)]) (Py.gName 2)) sNext)
    (sSeq (sIf (mNot (mTru (mCall (d_law_same 40) [.v (mCall d_ring_k52 [.v (mVar 0)]), .v (mVar 2)]))) (sRet (mC .none)) sNext)
    (sRet (mLst (lCons (mVar 2) lNil)))))))
noncomputable def d_law_right_k52_2 : Den := mkDen 3 b_law_right_k52_2

noncomputable def b_law_k52_3 : SM :=
    (sSeq (sAsg (mCall d_law_draws [.v (mVar 0), .v (mC (.int 200))]) (Py.gName 1))
    (sSeq (sAsg (mCall d_law_dice_k52 [.r 1]) (Py.gName 2))
    (sSeq (sAsg (mCall d_law_right_k52_2 [.v (mVar 2)]) (Py.gName 3))
    (sSeq (sIf (mOr (mB (mOp (fIs false) (mVar 3) (mC .none))) (mNot (mTru (mCall (d_law_same 40) [.v (mCall d_ring_k52 [.v (mVar 2)]), .v (mOp fIx (mVar 3) (mC (.int 0)))])))) (sRet (mC (.bool false))) sNext)
    (sSeq (sIf (mB (mOp (fIs true) (mOp fIx (mVar 3) (mC (.int 0))) (mC .none))) (sSeq (sAsg (mOp fIx (mOp fIx (mVar 3) (mC (.int 0))) (mCall d_law_take [.r 1, .v (mUn fLen (mOp fIx (mVar 3) (mC (.int 0))))])) (Py.gName 5))
    (sIf (mB (mOp (fIs false) (mCall d_law_right_k52_2 [.v (mOp fAdd (mSl (mVar 2) oNone (oSome (mVar 5))) (mSl (mVar 2) (oSome (mOp fAdd (mVar 5) (mC (.int 1)))) oNone))]) (mC .none))) (sRet (mC (.bool false))) sNext)) sNext)
    (sSeq (sIf (mB (mOp (fIs false) (mCall d_law_right_k52_2 [.v (mCall d_law_built [.r 1])]) (mC .none))) (sRet (mC (.bool false))) sNext)
    (sSeq (sAsg (mTup (lCons (mTup (lCons (mC (.int 3)) (lCons (mC (.int 5)) (lCons (mC (.int 7)) lNil)))) (lCons (mTup (lCons (mC (.int 2)) (lCons (mC (.int 4)) (lCons (mC (.int 9)) lNil)))) (lCons (mTup (lCons (mC (.int 1)) (lCons (mC (.int 6)) (lCons (mC (.int 8)) lNil)))) lNil)))) (Py.gName 4))
    (sRet (mAndV (mCall (d_law_same 40) [.v (mCall d_ring_k52 [.v (mVar 4)]), .v (mTup (lCons (mC (.int 0)) (lCons (mC (.int 1)) (lCons (mC (.int 2)) lNil))))]) (mOp (fIs false) (mCall d_ring_k52 [.v (mTup (lCons (mTup (lCons (mC (.int 1)) (lCons (mC (.int 2)) lNil))) (lCons (mTup (lCons (mC (.int 2)) (lCons (mC (.int 3)) lNil))) (lCons (mTup (lCons (mC (.int 3)) lNil)) lNil))))]) (mC .none)))))))))))
noncomputable def d_law_k52_3 : Den := mkDen 6 b_law_k52_3

end D
namespace Py
open PySem D
local macro_rules
  | `(tactic| walk_at "w") => `(tactic| with_reducible first
    | refine seq_nx ?_ | refine seq_rt ?_ | refine seq_bk ?_ | refine seq_ct ?_ | refine wp_seq ?_ | refine wp_asg ?_ | refine wp_next ?_ | refine wp_ret ?_ | refine wp_retN ?_ | refine wp_brk ?_ | refine wp_cont ?_ | refine wp_expr ?_ | refine wp_op ?_ | refine wp_un ?_ | refine wp_c ?_
    | refine unB ?_ | refine wp_truB ?_ | refine wp_and ?_ | refine wp_or ?_ | refine wp_not ?_ | refine wp_ifE ?_ | refine wp_tup ?_ | refine wp_lst ?_ | refine wp_lcons ?_ | refine wp_lnil ?_ | refine frzV ?_ | refine frzN ?_ | refine wp_frz ?_ | refine wp_sl ?_ | refine wp_onone ?_ | refine wp_osome ?_
    | refine wp_anil ?_ | refine wp_av ?_ | refine wp_andV ?_ | refine wp_orV ?_ | refine wp_notV ?_ | refine wp_fgtR ?_ | refine turn_nx ?_ | refine turn_rt ?_ | refine turn_bk ?_ | refine turn_ct ?_ | refine fgt_rt ?_ | refine wp_par ?_ | refine wp_chain ?_ | refine wp_seqI ?_)
local macro_rules
  | `(tactic| walk_at "put") => `(tactic| focus ((repeat apply PutR.s); exact PutR.z rfl))
local macro_rules
  | `(tactic| walk_at "set") => `(tactic| focus ((repeat apply SetR.s); first | exact SetR.o | exact SetR.r))
local macro_rules
  | `(tactic| walk_at "fgt") => `(tactic| focus (repeat first | exact FgtsR.nil | exact FgtR.k | exact FgtR.z rfl | apply FgtR.s | apply FgtsR.cons))
local macro_rules
  | `(tactic| walk_at "x") => `(tactic| first
    | ((with_reducible apply wp_varV); (focus exact rfl)) | ((with_reducible apply wp_varO); (focus exact rfl)) | ((with_reducible apply wp_varR); (focus exact rfl))
    | ((with_reducible apply opq); (focus exact rfl); (focus exact rfl); (focus (first | exact ev_eqI | exact ev_neI | exact ev_ltI | exact ev_leI | exact ev_gtI | exact ev_geI | exact rfl)))
    | ((with_reducible apply unq); (focus exact rfl); (focus exact rfl))
    | ((with_reducible first | apply putqV | apply putqN); walk_at "put")
    | ((with_reducible apply putq2); walk_at "put"; walk_at "put")
    | ((with_reducible apply parq); walk_at "put"; walk_at "put")
    | ((with_reducible apply wp_callR); (focus (repeat first | exact RefsR.nil | apply RefsR.v | apply RefsR.r)); (focus decide))
    | ((with_reducible apply wp_ar); (focus exact rfl))
    | ((with_reducible apply fin_rt); (focus exact rfl); (focus exact rfl))
    | ((with_reducible apply fin_nx); (focus exact rfl))
    | ((with_reducible apply wp_appendR); (focus exact rfl))
    | (with_reducible refine ⟨_, rfl, ?_⟩) | (with_reducible refine ⟨_, .inl rfl, ?_⟩) | (with_reducible refine ⟨_, .inr (.inl rfl), ?_⟩) | (with_reducible refine ⟨_, .inr (.inr rfl), ?_⟩)
    | (with_reducible apply callq0) | ((with_reducible apply frzB); (focus exact rfl); (focus exact rfl); walk_at "put")
    | ((with_reducible apply callq1); walk_at "set")
    | ((with_reducible apply callq2); walk_at "set"; walk_at "set")
    | ((with_reducible first | apply fgt_nx | apply fgt_bk | apply fgt_ct); walk_at "fgt")
    | ((with_reducible apply brT); (focus exact rfl)) | ((with_reducible apply brF); (focus exact rfl)))
local macro_rules
  | `(tactic| walk_at "r") => `(tactic| repeat first | walk_at "w" | walk_at "x")
local macro_rules
  | `(tactic| walk_at "ri") => `(tactic| repeat first | walk_at "w" | walk_at "x" | (with_reducible refine wp_if ?_))
local macro_rules
  | `(tactic| walk_at "app") => `(tactic| ((with_reducible apply appq); (focus exact rfl); (focus ((try simp only [List.length_map, List.length_nil, List.length_cons, List.length_append]); unfold line; omega)); walk_at "set"))
local macro_rules
  | `(tactic| walk_at "mul") => `(tactic| ((refine opq rfl rfl (ev_mul ?_) ?_); (focus (apply mulT <;> omega))))
local macro_rules
  | `(tactic| walk_at "rm") => `(tactic| repeat first | walk_at "w" | walk_at "x" | walk_at "mul")
local macro_rules
  | `(tactic| walk_at "len") => `(tactic| (refine And.intro ?_ ?_; (focus (simp [line]; done))))
def intsO (ns : List Int) : Ob := .lst (ns.map PyData.int)
theorem of_take {ds : List Int} {m : Int} (hm : 0 < m) {Q : R → List Ob → Prop} (k : ∀ x ds', 0 ≤ x → x < m → Q (.val (.int x)) [intsO ds']) : Ret d_law_take [.ref (intsO ds), .val (.int m)] Q := by
  refine ret_mkR (by repeat constructor) ?_
  unfold b_law_take
  walk_at "ri"
  refine branchD (fun h => ?_) fun h => ?_
  · walk_at "ri"
    exact k 0 ds (by omega) hm
  walk_at "ri"
  rcases List.eq_nil_or_concat ds with rfl | ⟨L, b, rfl⟩
  · exact absurd rfl h
  refine wp_popR (v := .int b) (xs := (L.concat b).map PyData.int) rfl (by simp) (SetR.r) ?_
  walk_at "ri"
  refine opq rfl rfl (ev_mod (by omega)) ?_
  walk_at "ri"
  have e : (List.map PyData.int (L.concat b)).dropLast = L.map PyData.int := by simp
  rw [e]
  exact k _ L (Int.fmod_nonneg_of_pos _ hm) (Int.fmod_lt_of_pos _ hm)
/-- a pair as a value -/
def fr (p : Int × Int) : PV := .tuple [.int p.1, .int p.2]
/-- in lowest terms -/
def rat (n d : Int) : Int × Int := let c : Int := if d < 0 then -(Int.gcd n d : Int) else Int.gcd n d; (n.fdiv c, d.fdiv c)
theorem gcd_ne {n d : Int} (h : d ≠ 0) : (Int.gcd n d : Int) ≠ 0 := by
  intro e
  have : Int.gcd n d = 0 := by omega
  exact h (Int.gcd_eq_zero_iff.mp this).2
/-- within the line of a product -/
def Bd (n : Nat) (p : Int × Int) : Prop := p.1.natAbs < 2 ^ n ∧ p.2.natAbs < 2 ^ n
def okM (p q : Int × Int) : Prop := mulOk p.1 q.2 = true ∧ mulOk q.1 p.2 = true ∧ mulOk p.2 q.2 = true ∧ mulOk p.1 q.1 = true
def plusV (p q : Int × Int) : Int × Int := rat (p.1 * q.2 + q.1 * p.2) (p.2 * q.2)
def minusV (p q : Int × Int) : Int × Int := rat (p.1 * q.2 - q.1 * p.2) (p.2 * q.2)
def timesV (p q : Int × Int) : Int × Int := rat (p.1 * q.1) (p.2 * q.2)
def lessV (p q : Int × Int) : Bool := decide (p.1 * q.2 < q.1 * p.2)
local macro_rules
  | `(tactic| walk_at "m") => `(tactic| ((refine opq rfl rfl (ev_mul ?_) ?_); focus assumption))
local macro_rules
  | `(tactic| walk_at "q") => `(tactic| repeat first | walk_at "w" | walk_at "x" | walk_at "m")
section
variable {p q : Int × Int} {Q : R → List Ob → Prop}
end
/-! alike -/
inductive Plain : Nat → PV → Prop
  | none {n : Nat} : Plain (n + 1) .none
  | bool {n : Nat} {b : Bool} : Plain (n + 1) (.bool b)
  | int {n : Nat} {i : Int} : Plain (n + 1) (.int i)
  | str {n : Nat} {s : Str} : Plain (n + 1) (.str s)
  | tuple {n : Nat} {xs : List PV} (hl : xs.length ≤ line) (h : ∀ x, x ∈ xs → Plain n x) : Plain (n + 1) (.tuple xs)
theorem of_same {n : Nat} {v : PV} (hp : Plain n v) : ∀ {Q : R → List Ob → Prop} (k : Q (.val (.bool true)) []), Ret (d_law_same n) [.val v, .val v] Q := by
  induction hp with
  | none =>
    intro Q k
    unfold d_law_same
    refine ret_mkR (by repeat constructor) ?_
    unfold b_law_same
    walk_at "ri"
    exact k
  | @bool n b =>
    intro Q k
    unfold d_law_same
    refine ret_mkR (by repeat constructor) ?_
    unfold b_law_same
    walk_at "ri"
    have e : (false ^^ (b == b)) = true := by simp
    rw [e]
    exact k
  | @int n i =>
    intro Q k
    unfold d_law_same
    refine ret_mkR (by repeat constructor) ?_
    unfold b_law_same
    walk_at "ri"
    have e : decide (i = i) = true := by simp
    rw [e]
    exact k
  | @str n s =>
    intro Q k
    unfold d_law_same
    refine ret_mkR (by repeat constructor) ?_
    unfold b_law_same
    walk_at "ri"
    have e : (false ^^ decide (s = s)) = true := by simp
    rw [e]
    exact k
  | @tuple n xs hl h ih =>
    intro Q k
    unfold d_law_same
    refine ret_mkR (by repeat constructor) ?_
    unfold b_law_same
    walk_at "ri"
    refine brF (by simp) ?_
    walk_at "ri"
    refine wp_forN (fun k ρ => ρ = [some (.val (.tuple xs)), some (.val (.tuple xs)), none]) xs.length ?_ ?_ ?_
    · walk_at "ri"
      exact ⟨rfl, hl, rfl⟩
    · rintro j ρ hj rfl
      unfold l1_law_same
      walk_at "ri"
      refine opq rfl rfl (ev_ix (.inl rfl) (atI_nat (List.getElem?_eq_getElem hj))) ?_
      walk_at "ri"
      refine opq rfl rfl (ev_ix (.inl rfl) (atI_nat (List.getElem?_eq_getElem hj))) ?_
      walk_at "ri"
      refine ih _ (List.getElem_mem hj) ?_
      walk_at "ri"
      rfl
    · rintro ρ rfl
      walk_at "ri"
      exact k
end Py
namespace Py
open PySem D
local macro_rules
  | `(tactic| walk_at "w") => `(tactic| with_reducible first
    | refine seq_nx ?_ | refine seq_rt ?_ | refine seq_bk ?_ | refine seq_ct ?_ | refine wp_seq ?_ | refine wp_asg ?_ | refine wp_next ?_ | refine wp_ret ?_ | refine wp_retN ?_ | refine wp_brk ?_ | refine wp_cont ?_ | refine wp_expr ?_ | refine wp_op ?_ | refine wp_un ?_ | refine wp_c ?_
    | refine unB ?_ | refine wp_truB ?_ | refine wp_and ?_ | refine wp_or ?_ | refine wp_not ?_ | refine wp_ifE ?_ | refine wp_tup ?_ | refine wp_lst ?_ | refine wp_lcons ?_ | refine wp_lnil ?_ | refine frzV ?_ | refine frzN ?_ | refine wp_frz ?_ | refine wp_sl ?_ | refine wp_onone ?_ | refine wp_osome ?_
    | refine wp_anil ?_ | refine wp_av ?_ | refine wp_andV ?_ | refine wp_orV ?_ | refine wp_notV ?_ | refine wp_fgtR ?_ | refine turn_nx ?_ | refine turn_rt ?_ | refine turn_bk ?_ | refine turn_ct ?_ | refine fgt_rt ?_ | refine wp_par ?_ | refine wp_chain ?_ | refine wp_seqI ?_)
local macro_rules
  | `(tactic| walk_at "put") => `(tactic| focus ((repeat apply PutR.s); exact PutR.z rfl))
local macro_rules
  | `(tactic| walk_at "set") => `(tactic| focus ((repeat apply SetR.s); first | exact SetR.o | exact SetR.r))
local macro_rules
  | `(tactic| walk_at "fgt") => `(tactic| focus (repeat first | exact FgtsR.nil | exact FgtR.k | exact FgtR.z rfl | apply FgtR.s | apply FgtsR.cons))
local macro_rules
  | `(tactic| walk_at "x") => `(tactic| first
    | ((with_reducible apply wp_varV); (focus exact rfl)) | ((with_reducible apply wp_varO); (focus exact rfl)) | ((with_reducible apply wp_varR); (focus exact rfl))
    | ((with_reducible apply opq); (focus exact rfl); (focus exact rfl); (focus (first | exact ev_eqI | exact ev_neI | exact ev_ltI | exact ev_leI | exact ev_gtI | exact ev_geI | exact rfl)))
    | ((with_reducible apply unq); (focus exact rfl); (focus exact rfl))
    | ((with_reducible first | apply putqV | apply putqN); walk_at "put")
    | ((with_reducible apply putq2); walk_at "put"; walk_at "put")
    | ((with_reducible apply parq); walk_at "put"; walk_at "put")
    | ((with_reducible apply wp_callR); (focus (repeat first | exact RefsR.nil | apply RefsR.v | apply RefsR.r)); (focus decide))
    | ((with_reducible apply wp_ar); (focus exact rfl))
    | ((with_reducible apply fin_rt); (focus exact rfl); (focus exact rfl))
    | ((with_reducible apply fin_nx); (focus exact rfl))
    | ((with_reducible apply wp_appendR); (focus exact rfl))
    | (with_reducible refine ⟨_, rfl, ?_⟩) | (with_reducible refine ⟨_, .inl rfl, ?_⟩) | (with_reducible refine ⟨_, .inr (.inl rfl), ?_⟩) | (with_reducible refine ⟨_, .inr (.inr rfl), ?_⟩)
    | (with_reducible apply callq0) | ((with_reducible apply frzB); (focus exact rfl); (focus exact rfl); walk_at "put")
    | ((with_reducible apply callq1); walk_at "set")
    | ((with_reducible apply callq2); walk_at "set"; walk_at "set")
    | ((with_reducible first | apply fgt_nx | apply fgt_bk | apply fgt_ct); walk_at "fgt")
    | ((with_reducible apply brT); (focus exact rfl)) | ((with_reducible apply brF); (focus exact rfl)))
local macro_rules
  | `(tactic| walk_at "r") => `(tactic| repeat first | walk_at "w" | walk_at "x")
local macro_rules
  | `(tactic| walk_at "ri") => `(tactic| repeat first | walk_at "w" | walk_at "x" | (with_reducible refine wp_if ?_))
local macro_rules
  | `(tactic| walk_at "app") => `(tactic| ((with_reducible apply appq); (focus exact rfl); (focus ((try simp only [List.length_map, List.length_nil, List.length_cons, List.length_append]); unfold line; omega)); walk_at "set"))
local macro_rules
  | `(tactic| walk_at "mul") => `(tactic| ((refine opq rfl rfl (ev_mul ?_) ?_); (focus (apply mulT <;> omega))))
local macro_rules
  | `(tactic| walk_at "rm") => `(tactic| repeat first | walk_at "w" | walk_at "x" | walk_at "mul")
local macro_rules
  | `(tactic| walk_at "len") => `(tactic| (refine And.intro ?_ ?_; (focus (simp [line]; done))))
theorem lenI {xs : List Int} : (List.map PyData.int xs).length = xs.length := List.length_map ..
theorem atI_int {xs : List Int} {j : Nat} (h : j < xs.length) : atI (xs.map PyData.int) (j : Int) = some (.int xs[j]) := atI_nat (by simp [h])
theorem of_draws {ns : List Int} (hb : ∀ z ∈ ns, Builtin.Int.intBits z ≤ 1048576) (hl : ns.length ≤ 63) {m : Nat} (hm : m ≤ 100000) {Q : R → List Ob → Prop} (k : ∀ ds, Q (.new (intsO ds)) []) : Ret d_law_draws [.val (.list (ns.map PyData.int)), .val (.int m)] Q := by
  refine ret_mkR (by repeat constructor) ?_
  unfold b_law_draws
  walk_at "ri"
  refine wp_lc PyData.int (fun done acc ρ => acc = done.map PyData.int ∧ ∃ s, ρ = [some (.val (.list (ns.map PyData.int))), some (.val (.int m)), none, none, none, none, none, none, s]) ?_
  walk_at "ri"
  refine ⟨by unfold line; omega, ⟨rfl, _, rfl⟩, ?_, ?_⟩
  · rintro done y rest acc _ e ⟨rfl, s, rfl⟩
    unfold LcQ
    dsimp only [wipe, set_s, set_z]
    walk_at "ri"
    refine ⟨true, _, rfl, ?_⟩
    refine brT rfl ?_
    unfold e1_law_draws
    walk_at "ri"
    exact ⟨by simp, _, rfl⟩
  rintro _ _ ⟨rfl, s, rfl⟩
  dsimp only [back, set_s, set_z, get_s, get_z]
  walk_at "r"
  refine wp_mid (fun ρ => ∃ cs : List Int, cs ≠ [] ∧ cs.length ≤ 63 ∧ (∀ z ∈ cs, Builtin.Int.intBits z ≤ 1048576) ∧ ρ = [some (.val (.list (ns.map PyData.int))), some (.val (.int m)), some (.own (intsO cs)), none, none, none, none, none, none]) ?_ ?_
  · walk_at "ri"
    refine branchD (fun h => ?_) fun h => ?_
    · walk_at "ri"
      have h0 : ns = [] := by simpa using h
      subst h0
      walk_at "app"
      walk_at "ri"
      exact ⟨rfl, [0], by simp, by simp, by simp; decide, rfl⟩
    · walk_at "ri"
      refine ⟨rfl, ns, fun h0 => h (by simp [h0]), hl, hb, rfl⟩
  rintro _ ⟨cs, hc0, hcl, hcb, rfl⟩
  walk_at "ri"
  have hn : 0 < cs.length := List.length_pos_iff.mpr hc0
  refine ⟨by simp [line], ?_⟩
  walk_at "ri"
  refine wp_forN (fun k ρ => ∃ rs ds : List Int, rs.length = cs.length ∧ ds.length = k ∧ ρ = [some (.val (.list (ns.map PyData.int))), some (.val (.int m)), some (.own (intsO cs)), some (.own (intsO rs)), some (.own (intsO ds)), none, none, none, none]) m ?_ ?_ ?_
  · walk_at "ri"
    exact ⟨rfl, by unfold line; omega, cs, [], rfl, rfl, rfl⟩
  · rintro k _ hk ⟨rs, ds, h1, h2, rfl⟩
    unfold l2_law_draws
    walk_at "ri"
    have hl0 : ((List.map PyData.int cs).length : Int) ≠ 0 := by simp; omega
    refine opq rfl rfl (ev_mod hl0) ?_
    obtain ⟨j, hj, hj2⟩ := fmod_ix (k : Int) (n := (List.map PyData.int cs).length) (by simp; omega)
    rw [hj]
    rw [lenI] at hj2
    walk_at "ri"
    refine opq rfl rfl (ev_ix (.inr (.inr rfl)) (atI_int hj2)) ?_
    walk_at "ri"
    have hj3 : j < rs.length := by omega
    refine branchD (fun h => ?_) fun h => ?_
    · walk_at "ri"
      refine opq rfl rfl (ev_ix (.inr (.inr rfl)) (atI_int hj3)) ?_
      walk_at "ri"
      walk_at "app"
      walk_at "ri"
      refine wp_setIxR ?_
      walk_at "ri"
      refine opq rfl rfl (ev_ix (.inr (.inr rfl)) (atI_int hj3)) ?_
      walk_at "ri"
      apply ixq (j := j) rfl rfl (by rw [lenI]; exact hj3)
      walk_at "set"
      walk_at "ri"
      refine ⟨rs.set j (rs[j].fdiv 1000), ds ++ [rs[j].fmod 1000], by simpa using h1, by simp [h2], ?_⟩
      simp [intsO]
    · walk_at "ri"
      refine opq rfl rfl (ev_ix (.inr (.inr rfl)) (atI_int hj2)) ?_
      walk_at "ri"
      refine opq rfl rfl (ev_mul ?_) ?_
      · exact mulB (n := 16) (hcb _ (List.getElem_mem hj2)) (by decide)
      walk_at "ri"
      refine opq rfl rfl (ev_mul ?_) ?_
      · exact mulOk_of 17 17 (by omega) (by decide)
      walk_at "ri"
      generalize hx : ((cs[j] * 48271 + k * 69621 + 11 : Int)).fmod 2147483647 = x
      have hx1 : 0 ≤ x := by rw [← hx]; exact Int.fmod_nonneg_of_pos _ (by decide)
      have hx2 : x < 2147483647 := by rw [← hx]; exact Int.fmod_lt_of_pos _ (by decide)
      walk_at "ri"
      refine opq rfl rfl (ev_mul (mulOk_of 31 31 (by omega) (by omega))) ?_
      walk_at "ri"
      refine opq rfl rfl (ev_mul (mulOk_of 31 31 (by decide) (by omega))) ?_
      walk_at "ri"
      walk_at "app"
      walk_at "ri"
      refine ⟨rs, ds ++ [(x * x + 3 * x + k).fmod 1000003], h1, by simp [h2], ?_⟩
      simp [intsO]
  · rintro _ ⟨rs, ds, h1, h2, rfl⟩
    walk_at "ri"
    refine wp_reverseR rfl (by walk_at "set") ?_
    walk_at "ri"
    have := k ds.reverse
    simpa [intsO] using this
end Py
namespace Py
open PySem D
local macro_rules
  | `(tactic| walk_at "w") => `(tactic| with_reducible first
    | refine seq_nx ?_ | refine seq_rt ?_ | refine seq_bk ?_ | refine seq_ct ?_ | refine wp_seq ?_ | refine wp_asg ?_ | refine wp_next ?_ | refine wp_ret ?_ | refine wp_retN ?_ | refine wp_brk ?_ | refine wp_cont ?_ | refine wp_expr ?_ | refine wp_op ?_ | refine wp_un ?_ | refine wp_c ?_
    | refine unB ?_ | refine wp_truB ?_ | refine wp_and ?_ | refine wp_or ?_ | refine wp_not ?_ | refine wp_ifE ?_ | refine wp_tup ?_ | refine wp_lst ?_ | refine wp_lcons ?_ | refine wp_lnil ?_ | refine frzV ?_ | refine frzN ?_ | refine wp_frz ?_ | refine wp_sl ?_ | refine wp_onone ?_ | refine wp_osome ?_
    | refine wp_anil ?_ | refine wp_av ?_ | refine wp_andV ?_ | refine wp_orV ?_ | refine wp_notV ?_ | refine wp_fgtR ?_ | refine turn_nx ?_ | refine turn_rt ?_ | refine turn_bk ?_ | refine turn_ct ?_ | refine fgt_rt ?_ | refine wp_par ?_ | refine wp_chain ?_ | refine wp_seqI ?_)
local macro_rules
  | `(tactic| walk_at "put") => `(tactic| focus ((repeat apply PutR.s); exact PutR.z rfl))
local macro_rules
  | `(tactic| walk_at "set") => `(tactic| focus ((repeat apply SetR.s); first | exact SetR.o | exact SetR.r))
local macro_rules
  | `(tactic| walk_at "fgt") => `(tactic| focus (repeat first | exact FgtsR.nil | exact FgtR.k | exact FgtR.z rfl | apply FgtR.s | apply FgtsR.cons))
local macro_rules
  | `(tactic| walk_at "x") => `(tactic| first
    | ((with_reducible apply wp_varV); (focus exact rfl)) | ((with_reducible apply wp_varO); (focus exact rfl)) | ((with_reducible apply wp_varR); (focus exact rfl))
    | ((with_reducible apply opq); (focus exact rfl); (focus exact rfl); (focus (first | exact ev_eqI | exact ev_neI | exact ev_ltI | exact ev_leI | exact ev_gtI | exact ev_geI | exact rfl)))
    | ((with_reducible apply unq); (focus exact rfl); (focus exact rfl))
    | ((with_reducible first | apply putqV | apply putqN); walk_at "put")
    | ((with_reducible apply putq2); walk_at "put"; walk_at "put")
    | ((with_reducible apply parq); walk_at "put"; walk_at "put")
    | ((with_reducible apply wp_callR); (focus (repeat first | exact RefsR.nil | apply RefsR.v | apply RefsR.r)); (focus decide))
    | ((with_reducible apply wp_ar); (focus exact rfl))
    | ((with_reducible apply fin_rt); (focus exact rfl); (focus exact rfl))
    | ((with_reducible apply fin_nx); (focus exact rfl))
    | ((with_reducible apply wp_appendR); (focus exact rfl))
    | (with_reducible refine ⟨_, rfl, ?_⟩) | (with_reducible refine ⟨_, .inl rfl, ?_⟩) | (with_reducible refine ⟨_, .inr (.inl rfl), ?_⟩) | (with_reducible refine ⟨_, .inr (.inr rfl), ?_⟩)
    | (with_reducible apply callq0) | ((with_reducible apply frzB); (focus exact rfl); (focus exact rfl); walk_at "put")
    | ((with_reducible apply callq1); walk_at "set")
    | ((with_reducible apply callq2); walk_at "set"; walk_at "set")
    | ((with_reducible first | apply fgt_nx | apply fgt_bk | apply fgt_ct); walk_at "fgt")
    | ((with_reducible apply brT); (focus exact rfl)) | ((with_reducible apply brF); (focus exact rfl)))
local macro_rules
  | `(tactic| walk_at "r") => `(tactic| repeat first | walk_at "w" | walk_at "x")
local macro_rules
  | `(tactic| walk_at "ri") => `(tactic| repeat first | walk_at "w" | walk_at "x" | (with_reducible refine wp_if ?_))
local macro_rules
  | `(tactic| walk_at "app") => `(tactic| ((with_reducible apply appq); (focus exact rfl); (focus ((try simp only [List.length_map, List.length_nil, List.length_cons, List.length_append]); unfold line; omega)); walk_at "set"))
local macro_rules
  | `(tactic| walk_at "mul") => `(tactic| ((refine opq rfl rfl (ev_mul ?_) ?_); (focus (apply mulT <;> omega))))
local macro_rules
  | `(tactic| walk_at "rm") => `(tactic| repeat first | walk_at "w" | walk_at "x" | walk_at "mul")
local macro_rules
  | `(tactic| walk_at "len") => `(tactic| (refine And.intro ?_ ?_; (focus (simp [line]; done))))
theorem rat_spec {n d : Int} (hd : d ≠ 0) : ∃ c : Int, c ≠ 0 ∧ n = (rat n d).1 * c ∧ d = (rat n d).2 * c ∧ 0 < (rat n d).2 := by
  have hg := gcd_ne (n := n) hd
  have h1 : (Int.gcd n d : Int) ∣ n := Int.gcd_dvd_left ..
  have h2 : (Int.gcd n d : Int) ∣ d := Int.gcd_dvd_right ..
  obtain ⟨a, ha⟩ := h1
  obtain ⟨b, hb⟩ := h2
  generalize hG : (Int.gcd n d : Int) = g at *
  have hg0 : 0 < g := by omega
  unfold rat
  rw [hG]
  by_cases h : d < 0
  · simp only [if_pos h]
    have e1 : n = -g * -a := by rw [Int.neg_mul_neg]; exact ha
    have e2 : d = -g * -b := by rw [Int.neg_mul_neg]; exact hb
    rw [e1, e2, Int.mul_fdiv_cancel_left _ (by omega), Int.mul_fdiv_cancel_left _ (by omega)]
    refine ⟨-g, by omega, by rw [Int.mul_comm], by rw [Int.mul_comm], ?_⟩
    rw [hb] at h
    have : b < 0 := by
      apply Int.lt_of_not_ge
      intro h0
      have := Int.mul_nonneg (Int.le_of_lt hg0) h0
      omega
    omega
  · simp only [if_neg h]
    rw [ha, hb, Int.mul_fdiv_cancel_left _ (by omega), Int.mul_fdiv_cancel_left _ (by omega)]
    refine ⟨g, by omega, by rw [Int.mul_comm], by rw [Int.mul_comm], ?_⟩
    rw [hb] at h
    have hd0 : b ≠ 0 := by intro h0; rw [h0] at hb; simp at hb; exact hd hb
    apply Int.lt_of_not_ge
    intro h0
    have : b < 0 := by omega
    have := Int.mul_neg_of_pos_of_neg hg0 this
    omega
/-- a fraction that is not too great -/
def Gd (B : Nat) (p : Int × Int) : Prop := p.2 ≠ 0 ∧ p.1.natAbs ≤ B ∧ p.2.natAbs ≤ B
theorem Gd.mono {A B : Nat} {p : Int × Int} (h : Gd A p) (hab : A ≤ B) : Gd B p := ⟨h.1, Nat.le_trans h.2.1 hab, Nat.le_trans h.2.2 hab⟩
end Py
namespace Py
open PySem D
local macro_rules
  | `(tactic| walk_at "w") => `(tactic| with_reducible first
    | refine seq_nx ?_ | refine seq_rt ?_ | refine seq_bk ?_ | refine seq_ct ?_ | refine wp_seq ?_ | refine wp_asg ?_ | refine wp_next ?_ | refine wp_ret ?_ | refine wp_retN ?_ | refine wp_brk ?_ | refine wp_cont ?_ | refine wp_expr ?_ | refine wp_op ?_ | refine wp_un ?_ | refine wp_c ?_
    | refine unB ?_ | refine wp_truB ?_ | refine wp_and ?_ | refine wp_or ?_ | refine wp_not ?_ | refine wp_ifE ?_ | refine wp_tup ?_ | refine wp_lst ?_ | refine wp_lcons ?_ | refine wp_lnil ?_ | refine frzV ?_ | refine frzN ?_ | refine wp_frz ?_ | refine wp_sl ?_ | refine wp_onone ?_ | refine wp_osome ?_
    | refine wp_anil ?_ | refine wp_av ?_ | refine wp_andV ?_ | refine wp_orV ?_ | refine wp_notV ?_ | refine wp_fgtR ?_ | refine turn_nx ?_ | refine turn_rt ?_ | refine turn_bk ?_ | refine turn_ct ?_ | refine fgt_rt ?_ | refine wp_par ?_ | refine wp_chain ?_ | refine wp_seqI ?_)
local macro_rules
  | `(tactic| walk_at "put") => `(tactic| focus ((repeat apply PutR.s); exact PutR.z rfl))
local macro_rules
  | `(tactic| walk_at "set") => `(tactic| focus ((repeat apply SetR.s); first | exact SetR.o | exact SetR.r))
local macro_rules
  | `(tactic| walk_at "fgt") => `(tactic| focus (repeat first | exact FgtsR.nil | exact FgtR.k | exact FgtR.z rfl | apply FgtR.s | apply FgtsR.cons))
local macro_rules
  | `(tactic| walk_at "x") => `(tactic| first
    | ((with_reducible apply wp_varV); (focus exact rfl)) | ((with_reducible apply wp_varO); (focus exact rfl)) | ((with_reducible apply wp_varR); (focus exact rfl))
    | ((with_reducible apply opq); (focus exact rfl); (focus exact rfl); (focus (first | exact ev_eqI | exact ev_neI | exact ev_ltI | exact ev_leI | exact ev_gtI | exact ev_geI | exact rfl)))
    | ((with_reducible apply unq); (focus exact rfl); (focus exact rfl))
    | ((with_reducible first | apply putqV | apply putqN); walk_at "put")
    | ((with_reducible apply putq2); walk_at "put"; walk_at "put")
    | ((with_reducible apply parq); walk_at "put"; walk_at "put")
    | ((with_reducible apply wp_callR); (focus (repeat first | exact RefsR.nil | apply RefsR.v | apply RefsR.r)); (focus decide))
    | ((with_reducible apply wp_ar); (focus exact rfl))
    | ((with_reducible apply fin_rt); (focus exact rfl); (focus exact rfl))
    | ((with_reducible apply fin_nx); (focus exact rfl))
    | ((with_reducible apply wp_appendR); (focus exact rfl))
    | (with_reducible refine ⟨_, rfl, ?_⟩) | (with_reducible refine ⟨_, .inl rfl, ?_⟩) | (with_reducible refine ⟨_, .inr (.inl rfl), ?_⟩) | (with_reducible refine ⟨_, .inr (.inr rfl), ?_⟩)
    | (with_reducible apply callq0) | ((with_reducible apply frzB); (focus exact rfl); (focus exact rfl); walk_at "put")
    | ((with_reducible apply callq1); walk_at "set")
    | ((with_reducible apply callq2); walk_at "set"; walk_at "set")
    | ((with_reducible first | apply fgt_nx | apply fgt_bk | apply fgt_ct); walk_at "fgt")
    | ((with_reducible apply brT); (focus exact rfl)) | ((with_reducible apply brF); (focus exact rfl)))
local macro_rules
  | `(tactic| walk_at "r") => `(tactic| repeat first | walk_at "w" | walk_at "x")
local macro_rules
  | `(tactic| walk_at "ri") => `(tactic| repeat first | walk_at "w" | walk_at "x" | (with_reducible refine wp_if ?_))
local macro_rules
  | `(tactic| walk_at "app") => `(tactic| ((with_reducible apply appq); (focus exact rfl); (focus ((try simp only [List.length_map, List.length_nil, List.length_cons, List.length_append]); unfold line; omega)); walk_at "set"))
local macro_rules
  | `(tactic| walk_at "mul") => `(tactic| ((refine opq rfl rfl (ev_mul ?_) ?_); (focus (apply mulT <;> omega))))
local macro_rules
  | `(tactic| walk_at "rm") => `(tactic| repeat first | walk_at "w" | walk_at "x" | walk_at "mul")
local macro_rules
  | `(tactic| walk_at "len") => `(tactic| (refine And.intro ?_ ?_; (focus (simp [line]; done))))
/-! numbers of the script's size -/
@[irreducible] def TT : Nat := 2 ^ 1048576
theorem tt_lt : 10 ^ 100 * TT < 2 ^ 1049000 := by
  unfold TT
  calc 10 ^ 100 * 2 ^ 1048576 < 2 ^ 424 * 2 ^ 1048576 := Nat.mul_lt_mul_of_pos_right (by decide) (Nat.two_pow_pos _)
    _ = 2 ^ 1049000 := by rw [← Nat.pow_add]
theorem mulT {a b : Int} (ha : a.natAbs ≤ 10 ^ 100 * TT) (hb : b.natAbs ≤ 10 ^ 100 * TT) : mulOk a b = true := mulOk_of 1049000 1049000 (Nat.lt_of_le_of_lt ha tt_lt) (Nat.lt_of_le_of_lt hb tt_lt)
/-! comprehensions and sums -/
theorem ints_map (xs : List Int) : ints? (xs.map PyData.int) = some xs := by
  unfold ints?
  induction xs with
  | nil => rfl
  | cons x xs ih => simp [List.mapM_cons, intV?, ih]
theorem cut_map {α β : Type} (f : α → β) (xs : List α) (lo hi : Option Int) : cut (xs.map f) lo hi = (cut xs lo hi).map f := by simp [cut, List.map_drop, List.map_take]
theorem lcqY {g : MG} {vs : List Nat} {e : M} {x : PV} {ρ ρ0 : Env} {Q : List PV → Env → Prop} (h0 : wipe ρ vs = ρ0) (h : PutQ g (.val x) ρ0 fun ρ1 => Wp e ρ1 fun r ρ3 => FrzQ r ρ3 fun v ρ4 => Q [v] ρ4) : LcQ g vs tYes e x ρ Q := by
  subst h0
  obtain ⟨ρ1, e1, q⟩ := h
  exact ⟨ρ1, e1, true, ρ1, rfl, fun _ => q, fun h => by cases h⟩
end Py
namespace Py
open PySem D
local macro_rules
  | `(tactic| walk_at "w") => `(tactic| with_reducible first
    | refine seq_nx ?_ | refine seq_rt ?_ | refine seq_bk ?_ | refine seq_ct ?_ | refine wp_seq ?_ | refine wp_asg ?_ | refine wp_next ?_ | refine wp_ret ?_ | refine wp_retN ?_ | refine wp_brk ?_ | refine wp_cont ?_ | refine wp_expr ?_ | refine wp_op ?_ | refine wp_un ?_ | refine wp_c ?_
    | refine unB ?_ | refine wp_truB ?_ | refine wp_and ?_ | refine wp_or ?_ | refine wp_not ?_ | refine wp_ifE ?_ | refine wp_tup ?_ | refine wp_lst ?_ | refine wp_lcons ?_ | refine wp_lnil ?_ | refine frzV ?_ | refine frzN ?_ | refine wp_frz ?_ | refine wp_sl ?_ | refine wp_onone ?_ | refine wp_osome ?_
    | refine wp_anil ?_ | refine wp_av ?_ | refine wp_andV ?_ | refine wp_orV ?_ | refine wp_notV ?_ | refine wp_fgtR ?_ | refine turn_nx ?_ | refine turn_rt ?_ | refine turn_bk ?_ | refine turn_ct ?_ | refine fgt_rt ?_ | refine wp_par ?_ | refine wp_chain ?_ | refine wp_seqI ?_)
local macro_rules
  | `(tactic| walk_at "put") => `(tactic| focus ((repeat apply PutR.s); first | exact PutR.z rfl | exact PutR.z (by assumption)))
local macro_rules
  | `(tactic| walk_at "set") => `(tactic| focus ((repeat apply SetR.s); first | exact SetR.o | exact SetR.r))
local macro_rules
  | `(tactic| walk_at "fgt") => `(tactic| focus (repeat first | exact FgtsR.nil | exact FgtR.k | exact FgtR.z rfl | apply FgtR.s | apply FgtsR.cons))
local macro_rules
  | `(tactic| walk_at "x") => `(tactic| first
    | ((with_reducible apply wp_varV); (focus exact rfl)) | ((with_reducible apply wp_varO); (focus exact rfl)) | ((with_reducible apply wp_varR); (focus exact rfl))
    | ((with_reducible apply opq); (focus exact rfl); (focus exact rfl); (focus (first | exact ev_eqI | exact ev_neI | exact ev_ltI | exact ev_leI | exact ev_gtI | exact ev_geI | exact ev_strT | exact ev_strF n1 | exact ev_strF n2 | exact ev_strF n3 | exact ev_strF n4 | exact ev_strF n5 | exact ev_strF n6 | exact rfl)))
    | ((with_reducible apply unq); (focus exact rfl); (focus exact rfl))
    | ((with_reducible first | apply putqV | apply putqN); walk_at "put")
    | ((with_reducible apply putq2); walk_at "put"; walk_at "put")
    | ((with_reducible apply parq); walk_at "put"; walk_at "put")
    | ((with_reducible apply wp_callR); (focus (repeat first | exact RefsR.nil | apply RefsR.v | apply RefsR.r)); (focus decide))
    | ((with_reducible apply wp_ar); (focus exact rfl))
    | ((with_reducible apply fin_rt); (focus exact rfl); (focus exact rfl))
    | ((with_reducible apply fin_nx); (focus exact rfl))
    | ((with_reducible apply wp_appendR); (focus exact rfl))
    | (with_reducible refine ⟨_, rfl, ?_⟩) | (with_reducible refine ⟨_, .inl rfl, ?_⟩) | (with_reducible refine ⟨_, .inr (.inl rfl), ?_⟩) | (with_reducible refine ⟨_, .inr (.inr rfl), ?_⟩)
    | (with_reducible apply callq0) | ((with_reducible apply frzB); (focus exact rfl); (focus exact rfl); walk_at "put")
    | ((with_reducible apply callq1); walk_at "set")
    | ((with_reducible apply callq2); walk_at "set"; walk_at "set")
    | ((with_reducible first | apply fgt_nx | apply fgt_bk | apply fgt_ct); walk_at "fgt")
    | ((with_reducible apply brT); (focus exact rfl)) | ((with_reducible apply brF); (focus exact rfl)))
local macro_rules
  | `(tactic| walk_at "r") => `(tactic| repeat first | walk_at "w" | walk_at "x")
local macro_rules
  | `(tactic| walk_at "ri") => `(tactic| repeat first | walk_at "w" | walk_at "x" | (with_reducible refine wp_if ?_))
local macro_rules
  | `(tactic| walk_at "app") => `(tactic| ((with_reducible apply appq); (focus exact rfl); (focus ((try simp only [List.length_map, List.length_nil, List.length_cons, List.length_append]); unfold line; omega)); walk_at "set"))
local macro_rules
  | `(tactic| walk_at "mul") => `(tactic| ((refine opq rfl rfl (ev_mul ?_) ?_); (focus (apply mulT <;> omega))))
local macro_rules
  | `(tactic| walk_at "rm") => `(tactic| repeat first | walk_at "w" | walk_at "x" | walk_at "mul")
local macro_rules
  | `(tactic| walk_at "len") => `(tactic| (refine And.intro ?_ ?_; (focus (simp [line]; done))))
local macro_rules
  | `(tactic| walk_at "rl") => `(tactic| repeat first | walk_at "w" | walk_at "x" | walk_at "len")
local macro_rules
  | `(tactic| walk_at "ril") => `(tactic| repeat first | walk_at "w" | walk_at "x" | walk_at "len" | (with_reducible refine wp_if ?_))
/-! fractions by their cross product -/
theorem rat_cop {n d : Int} (hd : d ≠ 0) : Int.gcd (rat n d).1 (rat n d).2 = 1 := by
  have hg := gcd_ne (n := n) hd
  have h1 : (Int.gcd n d : Int) ∣ n := Int.gcd_dvd_left ..
  have h2 : (Int.gcd n d : Int) ∣ d := Int.gcd_dvd_right ..
  obtain ⟨a, ha⟩ := h1
  obtain ⟨b, hb⟩ := h2
  have key : Int.gcd a b = 1 := by
    have e := congrArg (fun x : Int × Int => Int.gcd x.1 x.2) (show (n, d) = ((Int.gcd n d : Int) * a, (Int.gcd n d : Int) * b) from by rw [← ha, ← hb])
    simp only at e
    rw [Int.gcd_mul_left, Int.natAbs_natCast] at e
    have h0 : 0 < Int.gcd n d := by omega
    have e' : Int.gcd n d * 1 = Int.gcd n d * Int.gcd a b := by rw [Nat.mul_one]; exact e
    exact (Nat.eq_of_mul_eq_mul_left h0 e').symm
  unfold rat
  generalize (Int.gcd n d : Int) = g at *
  by_cases h : d < 0
  · simp only [if_pos h]
    have e1 : n = -g * -a := by rw [Int.neg_mul_neg]; exact ha
    have e2 : d = -g * -b := by rw [Int.neg_mul_neg]; exact hb
    rw [e1, e2, Int.mul_fdiv_cancel_left _ (by omega), Int.mul_fdiv_cancel_left _ (by omega), Int.neg_gcd, Int.gcd_neg]
    exact key
  · simp only [if_neg h]
    rw [ha, hb, Int.mul_fdiv_cancel_left _ (by omega), Int.mul_fdiv_cancel_left _ (by omega)]
    exact key
/-- in lowest terms -/
def Low (p : Int × Int) : Prop := 0 < p.2 ∧ Int.gcd p.1 p.2 = 1
theorem low_rat {n d : Int} (hd : d ≠ 0) : Low (rat n d) := by
  obtain ⟨c, _, _, _, h⟩ := rat_spec (n := n) hd
  exact ⟨h, rat_cop hd⟩
theorem low_eq {p q : Int × Int} (hp : Low p) (hq : Low q) (h : p.1 * q.2 = q.1 * p.2) : p = q := by
  obtain ⟨p1, p2⟩ := hp
  obtain ⟨q1, q2⟩ := hq
  have d1 : p.2.natAbs ∣ q.2.natAbs := by
    have : p.2.natAbs ∣ p.1.natAbs * q.2.natAbs := by
      rw [← Int.natAbs_mul, h, Int.natAbs_mul]
      exact Nat.dvd_mul_left ..
    exact Nat.Coprime.dvd_of_dvd_mul_left (Nat.Coprime.symm p2) this
  have d2 : q.2.natAbs ∣ p.2.natAbs := by
    have : q.2.natAbs ∣ q.1.natAbs * p.2.natAbs := by
      rw [← Int.natAbs_mul, ← h, Int.natAbs_mul]
      exact Nat.dvd_mul_left ..
    exact Nat.Coprime.dvd_of_dvd_mul_left (Nat.Coprime.symm q2) this
  have e := Nat.dvd_antisymm d1 d2
  have e2 : p.2 = q.2 := by omega
  rw [e2] at h
  have e1 := Int.eq_of_mul_eq_mul_right (by omega) h
  exact Prod.ext e1 e2
theorem rat_cross {n d : Int} (hd : d ≠ 0) : (rat n d).1 * d = n * (rat n d).2 := by
  obtain ⟨c, hc, h1, h2, h3⟩ := rat_spec (n := n) hd
  generalize rat n d = r at *
  rw [h1, h2]
  grind
theorem low_of {p : Int × Int} {n d : Int} (hp : Low p) (hd : d ≠ 0) (h : p.1 * d = n * p.2) : rat n d = p := by
  have hc := rat_cross (n := n) hd
  refine low_eq (low_rat hd) hp ?_
  apply Int.eq_of_mul_eq_mul_right hd
  generalize rat n d = r at *
  grind
/-- the sum of the products -/
def dotV (ps qs : List (Int × Int)) : Int × Int := (List.zipWith timesV ps qs).foldl plusV (0, 1)
theorem rat_le {n d : Int} (hd : d ≠ 0) : (rat n d).1.natAbs ≤ n.natAbs ∧ (rat n d).2.natAbs ≤ d.natAbs := by
  obtain ⟨c, hc, e1, e2, e3⟩ := rat_spec (n := n) hd
  have hc1 : 1 ≤ c.natAbs := by omega
  have f1 := congrArg Int.natAbs e1
  have f2 := congrArg Int.natAbs e2
  rw [Int.natAbs_mul] at f1 f2
  have g1 := Nat.mul_le_mul (Nat.le_refl (rat n d).1.natAbs) hc1
  have g2 := Nat.mul_le_mul (Nat.le_refl (rat n d).2.natAbs) hc1
  omega
/-- numbers of m bits -/
def Bt (m : Nat) (p : Int × Int) : Prop := 0 < p.2 ∧ p.1.natAbs < 2 ^ m ∧ p.2.natAbs < 2 ^ m
theorem Bt.mono {m n : Nat} {p : Int × Int} (h : Bt m p) (hmn : m ≤ n) : Bt n p := ⟨h.1, Nat.lt_of_lt_of_le h.2.1 (Nat.pow_le_pow_right (by decide) hmn), Nat.lt_of_lt_of_le h.2.2 (Nat.pow_le_pow_right (by decide) hmn)⟩
/-- two rows side by side -/
def Two (ps qs : List (Int × Int)) : Prop := ps.length = qs.length ∧ ps.length ≤ 100 ∧ (∀ p ∈ ps, Bt 350 p) ∧ ∀ q ∈ qs, Bt 350 q
def natI (k : Nat) : PV := .int (k : Int)
/-- a list or a tuple -/
def SqV (v : PV) (xs : List PV) : Prop := v = .list xs ∨ v = .tuple xs
end Py
namespace Py
open PySem D
local macro_rules
  | `(tactic| walk_at "w") => `(tactic| with_reducible first
    | refine seq_nx ?_ | refine seq_rt ?_ | refine seq_bk ?_ | refine seq_ct ?_ | refine wp_seq ?_ | refine wp_asg ?_ | refine wp_next ?_ | refine wp_ret ?_ | refine wp_retN ?_ | refine wp_brk ?_ | refine wp_cont ?_ | refine wp_expr ?_ | refine wp_op ?_ | refine wp_un ?_ | refine wp_c ?_
    | refine unB ?_ | refine wp_truB ?_ | refine wp_and ?_ | refine wp_or ?_ | refine wp_not ?_ | refine wp_ifE ?_ | refine wp_tup ?_ | refine wp_lst ?_ | refine wp_lcons ?_ | refine wp_lnil ?_ | refine frzV ?_ | refine frzN ?_ | refine wp_frz ?_ | refine wp_sl ?_ | refine wp_onone ?_ | refine wp_osome ?_
    | refine wp_anil ?_ | refine wp_av ?_ | refine wp_andV ?_ | refine wp_orV ?_ | refine wp_notV ?_ | refine wp_fgtR ?_ | refine turn_nx ?_ | refine turn_rt ?_ | refine turn_bk ?_ | refine turn_ct ?_ | refine fgt_rt ?_ | refine wp_par ?_ | refine wp_chain ?_ | refine wp_seqI ?_)
local macro_rules
  | `(tactic| walk_at "put") => `(tactic| focus ((repeat apply PutR.s); first | exact PutR.z rfl | exact PutR.z (by assumption)))
local macro_rules
  | `(tactic| walk_at "set") => `(tactic| focus ((repeat apply SetR.s); first | exact SetR.o | exact SetR.r))
local macro_rules
  | `(tactic| walk_at "fgt") => `(tactic| focus (repeat first | exact FgtsR.nil | exact FgtR.k | exact FgtR.z rfl | apply FgtR.s | apply FgtsR.cons))
local macro_rules
  | `(tactic| walk_at "x") => `(tactic| first
    | ((with_reducible apply wp_varV); (focus exact rfl)) | ((with_reducible apply wp_varO); (focus exact rfl)) | ((with_reducible apply wp_varR); (focus exact rfl))
    | ((with_reducible apply opq); (focus exact rfl); (focus exact rfl); (focus (first | exact ev_eqI | exact ev_neI | exact ev_ltI | exact ev_leI | exact ev_gtI | exact ev_geI | exact ev_strT | exact ev_strF n1 | exact ev_strF n2 | exact ev_strF n3 | exact ev_strF n4 | exact ev_strF n5 | exact ev_strF n6 | exact rfl)))
    | ((with_reducible apply unq); (focus exact rfl); (focus exact rfl))
    | ((with_reducible first | apply putqV | apply putqN); walk_at "put")
    | ((with_reducible apply putq2); walk_at "put"; walk_at "put")
    | ((with_reducible apply parq); walk_at "put"; walk_at "put")
    | ((with_reducible apply wp_callR); (focus (repeat first | exact RefsR.nil | apply RefsR.v | apply RefsR.r)); (focus decide))
    | ((with_reducible apply wp_ar); (focus exact rfl))
    | ((with_reducible apply fin_rt); (focus exact rfl); (focus exact rfl))
    | ((with_reducible apply fin_nx); (focus exact rfl))
    | ((with_reducible apply wp_appendR); (focus exact rfl))
    | (with_reducible refine ⟨_, rfl, ?_⟩) | (with_reducible refine ⟨_, .inl rfl, ?_⟩) | (with_reducible refine ⟨_, .inr (.inl rfl), ?_⟩) | (with_reducible refine ⟨_, .inr (.inr rfl), ?_⟩)
    | (with_reducible apply callq0) | ((with_reducible apply frzB); (focus exact rfl); (focus exact rfl); walk_at "put")
    | ((with_reducible apply callq1); walk_at "set")
    | ((with_reducible apply callq2); walk_at "set"; walk_at "set")
    | ((with_reducible first | apply fgt_nx | apply fgt_bk | apply fgt_ct); walk_at "fgt")
    | ((with_reducible apply brT); (focus exact rfl)) | ((with_reducible apply brF); (focus exact rfl)))
local macro_rules
  | `(tactic| walk_at "r") => `(tactic| repeat first | walk_at "w" | walk_at "x")
local macro_rules
  | `(tactic| walk_at "ri") => `(tactic| repeat first | walk_at "w" | walk_at "x" | (with_reducible refine wp_if ?_))
local macro_rules
  | `(tactic| walk_at "app") => `(tactic| ((with_reducible apply appq); (focus exact rfl); (focus ((try simp only [List.length_map, List.length_nil, List.length_cons, List.length_append]); unfold line; omega)); walk_at "set"))
local macro_rules
  | `(tactic| walk_at "mul") => `(tactic| ((refine opq rfl rfl (ev_mul ?_) ?_); (focus (apply mulT <;> omega))))
local macro_rules
  | `(tactic| walk_at "rm") => `(tactic| repeat first | walk_at "w" | walk_at "x" | walk_at "mul")
local macro_rules
  | `(tactic| walk_at "len") => `(tactic| (refine And.intro ?_ ?_; (focus (simp [line]; done))))
local macro_rules
  | `(tactic| walk_at "rl") => `(tactic| repeat first | walk_at "w" | walk_at "x" | walk_at "len")
local macro_rules
  | `(tactic| walk_at "ril") => `(tactic| repeat first | walk_at "w" | walk_at "x" | walk_at "len" | (with_reducible refine wp_if ?_))

/-! tables -/
def tupF (row : List (Int × Int)) : PV := .tuple (row.map fr)
/-- a table's bets: each of n fractions -/
def Tbl (n : Nat) (bets : List (List (Int × Int))) : Prop := bets.length ≤ 100 ∧ n ≤ 100 ∧ ∀ b ∈ bets, b.length = n ∧ ∀ p ∈ b, Bt 350 p
def tblV (n : Nat) (bets : List (List (Int × Int))) : PV := .tuple [.int n, .tuple (bets.map tupF)]
def Row (m : Nat) (row : List (Int × Int)) : Prop := row.length = m ∧ ∀ p ∈ row, Bt 350 p
def col (bets : List (List (Int × Int))) (k : Nat) : List (Int × Int) := bets.map fun b => b.getD k (0, 1)
def gainsV (n : Nat) (bets : List (List (Int × Int))) (st : List (Int × Int)) : List (Int × Int) := (List.range n).map fun k => dotV st (col bets k)
def worthsV (bets : List (List (Int × Int))) (ch : List (Int × Int)) : List (Int × Int) := bets.map fun b => dotV ch b
section
variable {n : Nat} {bets : List (List (Int × Int))} {st ch : List (Int × Int)} {Q : R → List Ob → Prop}
end
end Py
/-! QR: fractions as rational numbers. -/
namespace Py
open PySem D
def qv (p : Int × Int) : Rat := (p.1 : Rat) / (p.2 : Rat)
theorem ic_ne {a : Int} (h : a ≠ 0) : (a : Rat) ≠ 0 := fun z => h (Rat.intCast_eq_zero_iff.mp z)
theorem qv_of {p : Int × Int} {n d : Int} (hp : p.2 ≠ 0) (hd : d ≠ 0) : qv p = (n : Rat) / d ↔ p.1 * d = n * p.2 := by
  have h1 := ic_ne hp
  have h2 := ic_ne hd
  unfold qv
  constructor
  · intro h
    have h3 : (p.1 : Rat) * d = n * p.2 := by grind
    have h4 : ((p.1 * d : Int) : Rat) = ((n * p.2 : Int) : Rat) := by rw [Rat.intCast_mul, Rat.intCast_mul, h3]
    exact Rat.intCast_inj.mp h4
  · intro h
    have h4 : ((p.1 * d : Int) : Rat) = ((n * p.2 : Int) : Rat) := by rw [h]
    rw [Rat.intCast_mul, Rat.intCast_mul] at h4
    grind
theorem Low.ne {p : Int × Int} (h : Low p) : p.2 ≠ 0 := by have := h.1; omega
theorem low_rat_qv {p : Int × Int} {n d : Int} (hp : Low p) (hd : d ≠ 0) (h : qv p = (n : Rat) / d) : rat n d = p := low_of hp hd ((qv_of hp.ne hd).mp h)
theorem low_bd {p : Int × Int} {n d : Int} (hp : Low p) (hd : d ≠ 0) (h : qv p = (n : Rat) / d) : p.1.natAbs ≤ n.natAbs ∧ p.2.natAbs ≤ d.natAbs := by
  rw [← low_rat_qv hp hd h]
  exact rat_le hd
end Py
/-! QI: how the further meanings are reckoned. -/
namespace Py
open PySem
theorem eqv_int {a b : Int} : PyData.eqv (.int a) (.int b) = decide (a = b) := by simp only [PyData.eqv]; rfl
theorem inD_ints {x : Int} {xs : List Int} : inD (.int x) (xs.map PyData.int) = decide (x ∈ xs) := by
  unfold inD
  induction xs with
  | nil => rfl
  | cons a xs ih =>
    rw [List.map_cons, List.any_cons, ih, eqv_int]
    by_cases h : a = x
    · subst h; simp
    · have h' : ¬ x = a := fun z => h z.symm
      simp [h, h']
theorem flat_ints {xs : List Int} : (xs.map PyData.int).all flatD = true := by
  induction xs with
  | nil => rfl
  | cons a xs ih => rw [List.map_cons, List.all_cons, ih]; rfl
theorem ev_inI {neg : Bool} {x : Int} {c : Ct} {xs : List Int} (h : c.seq? = some (xs.map PyData.int)) : fIn neg (.pv (.int x)) c = some (.val (.bool (neg ^^ decide (x ∈ xs)))) := by
  unfold fIn
  simp only [h, Option.bind_some]
  rw [if_pos ⟨rfl, flat_ints⟩, inD_ints]
theorem ev_in2 {x a b : Int} : fIn false (.pv (.int x)) (.pv (.tuple [.int a, .int b])) = some (.val (.bool (decide (x = a ∨ x = b)))) := by
  rw [ev_inI (xs := [a, b]) rfl]
  simp
theorem ev_in2n {x a b : Int} : fIn true (.pv (.int x)) (.pv (.tuple [.int a, .int b])) = some (.val (.bool (!decide (x = a ∨ x = b)))) := by
  rw [ev_inI (xs := [a, b]) rfl]
  simp
theorem ev_in4n {x a b c d : Int} : fIn true (.pv (.int x)) (.ob (.lst [.int a, .int b, .int c, .int d])) = some (.val (.bool (!decide (x = a ∨ x = b ∨ x = c ∨ x = d)))) := by
  rw [ev_inI (xs := [a, b, c, d]) rfl]
  simp
theorem ev_inF {x : Int} {c : Ct} {xs : List Int} (h : c.seq? = some (xs.map PyData.int)) : fIn false (.pv (.int x)) c = some (.val (.bool (decide (x ∈ xs)))) := by rw [ev_inI h, Bool.false_xor]
theorem ev_inT {x : Int} {c : Ct} {xs : List Int} (h : c.seq? = some (xs.map PyData.int)) : fIn true (.pv (.int x)) c = some (.val (.bool (!decide (x ∈ xs)))) := by rw [ev_inI h, Bool.true_xor]
theorem ev_isT {a : Bool} : fIsB false (.pv (.bool a)) (.pv (.bool true)) = some (.val (.bool a)) := by cases a <;> rfl
theorem ev_isF {a : Bool} : fIsB false (.pv (.bool a)) (.pv (.bool false)) = some (.val (.bool (!a))) := by cases a <;> rfl
theorem ev_isnT {a : Bool} : fIsB true (.pv (.bool a)) (.pv (.bool true)) = some (.val (.bool (!a))) := by cases a <;> rfl
theorem ev_isnF {a : Bool} : fIsB true (.pv (.bool a)) (.pv (.bool false)) = some (.val (.bool a)) := by cases a <;> rfl
theorem atI_last {xs : List PV} {x : PV} : atI (xs ++ [x]) (-1) = some x := by
  unfold atI ixN
  rw [if_neg (by decide), List.length_append, List.length_singleton, if_pos (by omega), show (-1 + ((xs.length + 1 : Nat) : Int)).toNat = xs.length by omega]
  simp
def tupI (xs : List Int) : PV := .tuple (xs.map PyData.int)
theorem ev_addT {xs ys : List PV} (h : xs.length + ys.length ≤ line) : fAdd (.pv (.tuple xs)) (.pv (.tuple ys)) = some (.val (.tuple (xs ++ ys))) := if_pos h
theorem ev_addL {xs ys : List PV} (h : xs.length + ys.length ≤ line) : fAdd (.ob (.lst xs)) (.ob (.lst ys)) = some (.new (.lst (xs ++ ys))) := if_pos h
theorem putqB {i j : Nat} {o : Ob} {v : PV} {ρ ρ1 ρ2 : Env} {Q : Env → Prop} (h : get ρ j = some (.own o)) (h2 : frzO o = some v) (h3 : PutR j (some (.val v)) ρ ρ1) (h4 : PutR i (some (.val v)) ρ1 ρ2) (q : Q ρ2) : PutQ (gName i) (.bor j) ρ Q := by
  have e := h3.put
  simp only [put, h, isRef, Bool.false_eq_true, if_false] at e
  refine ⟨ρ2, ?_, q⟩
  simp only [gName, frz, h, h2, Option.map_some, Option.bind_some]
  rw [Option.some.inj e]
  exact h4.put
theorem pickI {xs : List Int} {i : Int} (h0 : 0 ≤ i) (h1 : i < xs.length) : ∃ w ∈ xs, atI (xs.map PyData.int) i = some (.int w) := by
  obtain ⟨j, rfl⟩ := Int.eq_ofNat_of_zero_le h0
  have hj : j < xs.length := by omega
  exact ⟨xs[j], List.getElem_mem hj, atI_int hj⟩
theorem wp_lstR1 {a : M} {ρ : Env} {Q : R → Env → Prop} (h : Wp a ρ fun x ρ1 => ∃ n : Int, look x ρ1 = some (.pv (.int n)) ∧ (n ≤ line ∧ -(2 ^ 62) ≤ n) ∧ Q (.new (.lst (rangeL 0 n.toNat))) ρ1) : Wp (mLstR1 a) ρ Q := by
  obtain ⟨x, ρ1, e1, n, e2, hz, q⟩ := h
  exact ⟨_, ρ1, by simp only [mLstR1, e1, e2, Option.bind_some, intOf, if_pos hz], q⟩
end Py
namespace Py
open PySem D
local macro_rules
  | `(tactic| walk_at "w") => `(tactic| with_reducible first
    | refine seq_nx ?_ | refine seq_rt ?_ | refine seq_bk ?_ | refine seq_ct ?_ | refine wp_seq ?_ | refine wp_asg ?_ | refine wp_next ?_ | refine wp_ret ?_ | refine wp_retN ?_ | refine wp_brk ?_ | refine wp_cont ?_ | refine wp_expr ?_ | refine wp_op ?_ | refine wp_un ?_ | refine wp_c ?_
    | refine unB ?_ | refine wp_truB ?_ | refine wp_and ?_ | refine wp_or ?_ | refine wp_not ?_ | refine wp_ifE ?_ | refine wp_tup ?_ | refine wp_lst ?_ | refine wp_lcons ?_ | refine wp_lnil ?_ | refine frzV ?_ | refine frzN ?_ | refine wp_frz ?_ | refine wp_sl ?_ | refine wp_onone ?_ | refine wp_osome ?_
    | refine wp_anil ?_ | refine wp_av ?_ | refine wp_andV ?_ | refine wp_orV ?_ | refine wp_notV ?_ | refine wp_fgtR ?_ | refine turn_nx ?_ | refine turn_rt ?_ | refine turn_bk ?_ | refine turn_ct ?_ | refine fgt_rt ?_ | refine wp_par ?_ | refine wp_chain ?_ | refine wp_seqI ?_)
local macro_rules
  | `(tactic| walk_at "put") => `(tactic| focus ((repeat apply PutR.s); first | exact PutR.z rfl | exact PutR.z (by assumption)))
local macro_rules
  | `(tactic| walk_at "set") => `(tactic| focus ((repeat apply SetR.s); first | exact SetR.o | exact SetR.r))
local macro_rules
  | `(tactic| walk_at "fgt") => `(tactic| focus (repeat first | exact FgtsR.nil | exact FgtR.k | exact FgtR.z rfl | exact FgtR.z (by assumption) | apply FgtR.s | apply FgtsR.cons))
local macro_rules
  | `(tactic| walk_at "x") => `(tactic| first
    | ((with_reducible apply wp_varV); (focus exact rfl)) | ((with_reducible apply wp_varO); (focus exact rfl)) | ((with_reducible apply wp_varR); (focus exact rfl))
    | ((with_reducible apply opq); (focus exact rfl); (focus exact rfl); (focus (first | exact ev_eqI | exact ev_neI | exact ev_ltI | exact ev_leI | exact ev_gtI | exact ev_geI | exact ev_in2 | exact ev_in2n | exact ev_in4n | exact ev_isT | exact ev_isF | exact ev_isnT | exact ev_isnF | exact ev_strT | exact ev_strF n1 | exact ev_strF n2 | exact ev_strF n3 | exact ev_strF n4 | exact ev_strF n5 | exact ev_strF n6 | exact rfl)))
    | ((with_reducible apply unq); (focus exact rfl); (focus exact rfl))
    | ((with_reducible first | apply putqV | apply putqN); walk_at "put")
    | ((with_reducible apply putqB); (focus exact rfl); (focus exact rfl); walk_at "put"; walk_at "put")
    | ((with_reducible apply putq2); walk_at "put"; walk_at "put")
    | ((with_reducible apply parq); walk_at "put"; walk_at "put")
    | ((with_reducible apply wp_callR); (focus (repeat first | exact RefsR.nil | apply RefsR.v | apply RefsR.r)); (focus decide))
    | ((with_reducible apply wp_ar); (focus exact rfl))
    | ((with_reducible apply fin_rt); (focus exact rfl); (focus exact rfl))
    | ((with_reducible apply fin_nx); (focus exact rfl))
    | ((with_reducible apply wp_appendR); (focus exact rfl))
    | (with_reducible refine ⟨_, rfl, ?_⟩) | (with_reducible refine ⟨_, .inl rfl, ?_⟩) | (with_reducible refine ⟨_, .inr (.inl rfl), ?_⟩) | (with_reducible refine ⟨_, .inr (.inr rfl), ?_⟩)
    | (with_reducible apply callq0) | ((with_reducible apply frzB); (focus exact rfl); (focus exact rfl); walk_at "put")
    | ((with_reducible apply callq1); walk_at "set")
    | ((with_reducible apply callq2); walk_at "set"; walk_at "set")
    | ((with_reducible first | apply fgt_nx | apply fgt_bk | apply fgt_ct); walk_at "fgt")
    | ((with_reducible apply brT); (focus exact rfl)) | ((with_reducible apply brF); (focus exact rfl)))
local macro_rules
  | `(tactic| walk_at "r") => `(tactic| repeat first | walk_at "w" | walk_at "x")
local macro_rules
  | `(tactic| walk_at "ri") => `(tactic| repeat first | walk_at "w" | walk_at "x" | (with_reducible refine wp_if ?_))
local macro_rules
  | `(tactic| walk_at "app") => `(tactic| ((with_reducible apply appq); (focus exact rfl); (focus ((try simp only [List.length_map, List.length_nil, List.length_cons, List.length_append]); unfold line; omega)); walk_at "set"))
local macro_rules
  | `(tactic| walk_at "mul") => `(tactic| ((refine opq rfl rfl (ev_mul ?_) ?_); (focus (apply mulT <;> omega))))
local macro_rules
  | `(tactic| walk_at "rm") => `(tactic| repeat first | walk_at "w" | walk_at "x" | walk_at "mul")
local macro_rules
  | `(tactic| walk_at "len") => `(tactic| (refine And.intro ?_ ?_; (focus (simp [line]; done))))
local macro_rules
  | `(tactic| walk_at "rl") => `(tactic| repeat first | walk_at "w" | walk_at "x" | walk_at "len")
local macro_rules
  | `(tactic| walk_at "ril") => `(tactic| repeat first | walk_at "w" | walk_at "x" | walk_at "len" | (with_reducible refine wp_if ?_))
/-! two clauses -/
def InQ (g : MG) (vs : List Nat) (t : MT) (e : M) (xs : List PV) (ρ : Env) (Q : List PV → Env → Prop) : Prop := xs.length ≤ line ∧ ∃ zs ρ', lcF (lcTurn g vs t e) xs ρ = some (zs, ρ') ∧ Q zs ρ'
def Lc2Q (g : MG) (vs : List Nat) (t : MT) (it1 : MI) (g1 : MG) (vs1 : List Nat) (t1 : MT) (e : M) (x : PV) (ρ : Env) (Q : List PV → Env → Prop) : Prop :=
  PutQ g (.val x) (wipe ρ vs) fun ρ1 => Wp t ρ1 fun b ρ2 => (b = true → Wp it1 ρ2 fun xs ρ3 => InQ g1 vs1 t1 e xs ρ3 Q) ∧ (b = false → Q [] ρ2)
section
variable {g g1 : MG} {vs vs1 : List Nat} {t t1 : MT} {e : M} {ρ : Env} {it it1 : MI}
theorem inq {α : Type} (fn : α → PV) (P : List α → List PV → Env → Prop) (ys : List α) {Q : List PV → Env → Prop} (hz : ys.length ≤ line) (h0 : P [] [] ρ) (step : ∀ done y rest acc ρ, ys = done ++ y :: rest → P done acc ρ → LcQ g vs t e (fn y) ρ fun zs ρ2 => P (done ++ [y]) (acc ++ zs) ρ2)
    (hd : ∀ acc ρ, P ys acc ρ → Q acc ρ) : InQ g vs t e (ys.map fn) ρ Q := by
  have key : ∀ (rest done : List α) (acc : List PV) (ρ : Env), ys = done ++ rest → P done acc ρ → ∃ zs ρ', lcF (lcTurn g vs t e) (rest.map fn) ρ = some (zs, ρ') ∧ P ys (acc ++ zs) ρ' := by
    intro rest
    induction rest with
    | nil =>
      intro done acc ρ e p
      rw [List.append_nil] at e
      subst e
      exact ⟨[], ρ, rfl, by simpa using p⟩
    | cons y rest ih =>
      intro done acc ρ e p
      obtain ⟨ρ2, e2, b, ρ3, e3, h1, h2⟩ := step done y rest acc ρ e p
      have e' : ys = (done ++ [y]) ++ rest := by rw [e]; simp
      cases b with
      | true =>
        obtain ⟨r, ρ4, e4, v, ρ5, e5, q⟩ := h1 rfl
        obtain ⟨zs, ρ', e6, p'⟩ := ih _ _ ρ5 e' q
        exact ⟨v :: zs, ρ', by simp [lcF, lcTurn, e2, e3, e4, e5, e6], by simpa using p'⟩
      | false =>
        obtain ⟨zs, ρ', e6, p'⟩ := ih _ _ ρ3 e' (h2 rfl)
        exact ⟨zs, ρ', by simp [lcF, lcTurn, e2, e3, e6], by simpa using p'⟩
  obtain ⟨zs, ρ', e6, p'⟩ := key ys [] [] ρ rfl h0
  exact ⟨by rw [List.length_map]; exact hz, zs, ρ', e6, hd _ _ (by simpa using p')⟩
theorem wp_lc2 {α : Type} (fn : α → PV) (P : List α → List PV → Env → Prop) {Q : R → Env → Prop}
    (h : Wp it ρ fun xs ρ1 => ∃ ys : List α, xs = ys.map fn ∧ ys.length ≤ line ∧ P [] [] ρ1 ∧ (∀ done y rest acc ρ, ys = done ++ y :: rest → P done acc ρ → Lc2Q g vs t it1 g1 vs1 t1 e (fn y) ρ fun zs ρ2 => P (done ++ [y]) (acc ++ zs) ρ2) ∧ ∀ acc ρ, P ys acc ρ → acc.length ≤ line ∧ Q (.new (.lst acc)) (back ρ1 vs ρ)) :
    Wp (mLc2 it g vs t it1 g1 vs1 t1 e) ρ Q := by
  obtain ⟨xs, ρ1, e1, ys, rfl, hz, h0, step, hd⟩ := h
  have key : ∀ (rest done : List α) (acc : List PV) (ρ : Env), ys = done ++ rest → P done acc ρ → ∃ zs ρ', lcF (lcTurn2 g vs t it1 g1 vs1 t1 e) (rest.map fn) ρ = some (zs, ρ') ∧ P ys (acc ++ zs) ρ' := by
    intro rest
    induction rest with
    | nil =>
      intro done acc ρ e p
      rw [List.append_nil] at e
      subst e
      exact ⟨[], ρ, rfl, by simpa using p⟩
    | cons y rest ih =>
      intro done acc ρ e p
      obtain ⟨ρ2, e2, b, ρ3, e3, h1, h2⟩ := step done y rest acc ρ e p
      have e' : ys = (done ++ [y]) ++ rest := by rw [e]; simp
      cases b with
      | true =>
        obtain ⟨xs1, ρ4, e4, hz1, zs1, ρ5, e5, q⟩ := h1 rfl
        obtain ⟨zs, ρ', e6, p'⟩ := ih _ _ ρ5 e' q
        exact ⟨zs1 ++ zs, ρ', by simp [lcF, lcTurn2, e2, e3, e4, hz1, e5, e6], by simpa using p'⟩
      | false =>
        obtain ⟨zs, ρ', e6, p'⟩ := ih _ _ ρ3 e' (h2 rfl)
        exact ⟨zs, ρ', by simp [lcF, lcTurn2, e2, e3, e6], by simpa using p'⟩
  obtain ⟨zs, ρ', e6, p'⟩ := key ys [] [] ρ1 rfl h0
  have := hd _ _ (show P ys zs ρ' by simpa using p')
  exact ⟨.new (.lst zs), back ρ1 vs ρ', by simp only [mLc2, e1, Option.bind_some, List.length_map, if_pos hz, e6, if_pos this.1], this.2⟩
/-- no test -/
theorem lc2qY {x : PV} {ρ0 : Env} {Q : List PV → Env → Prop} (h0 : wipe ρ vs = ρ0) (h : PutQ g (.val x) ρ0 fun ρ1 => Wp it1 ρ1 fun xs ρ3 => InQ g1 vs1 t1 e xs ρ3 Q) : Lc2Q g vs tYes it1 g1 vs1 t1 e x ρ Q := by
  subst h0
  obtain ⟨ρ1, e1, q⟩ := h
  exact ⟨ρ1, e1, true, ρ1, rfl, fun _ => q, fun h => by cases h⟩
end
end Py
namespace Py
open PySem D
local macro_rules
  | `(tactic| walk_at "w") => `(tactic| with_reducible first
    | refine seq_nx ?_ | refine seq_rt ?_ | refine seq_bk ?_ | refine seq_ct ?_ | refine wp_seq ?_ | refine wp_asg ?_ | refine wp_next ?_ | refine wp_ret ?_ | refine wp_retN ?_ | refine wp_brk ?_ | refine wp_cont ?_ | refine wp_expr ?_ | refine wp_op ?_ | refine wp_un ?_ | refine wp_c ?_
    | refine unB ?_ | refine wp_truB ?_ | refine wp_and ?_ | refine wp_or ?_ | refine wp_not ?_ | refine wp_ifE ?_ | refine wp_tup ?_ | refine wp_lst ?_ | refine wp_lcons ?_ | refine wp_lnil ?_ | refine frzV ?_ | refine frzN ?_ | refine wp_frz ?_ | refine wp_sl ?_ | refine wp_onone ?_ | refine wp_osome ?_
    | refine wp_anil ?_ | refine wp_av ?_ | refine wp_andV ?_ | refine wp_orV ?_ | refine wp_notV ?_ | refine wp_fgtR ?_ | refine turn_nx ?_ | refine turn_rt ?_ | refine turn_bk ?_ | refine turn_ct ?_ | refine fgt_rt ?_ | refine wp_par ?_ | refine wp_chain ?_ | refine wp_seqI ?_)
local macro_rules
  | `(tactic| walk_at "put") => `(tactic| focus ((repeat apply PutR.s); first | exact PutR.z rfl | exact PutR.z (by assumption)))
local macro_rules
  | `(tactic| walk_at "set") => `(tactic| focus ((repeat apply SetR.s); first | exact SetR.o | exact SetR.r))
local macro_rules
  | `(tactic| walk_at "fgt") => `(tactic| focus (repeat first | exact FgtsR.nil | exact FgtR.k | exact FgtR.z rfl | exact FgtR.z (by assumption) | apply FgtR.s | apply FgtsR.cons))
local macro_rules
  | `(tactic| walk_at "x") => `(tactic| first
    | ((with_reducible apply wp_varV); (focus exact rfl)) | ((with_reducible apply wp_varO); (focus exact rfl)) | ((with_reducible apply wp_varR); (focus exact rfl))
    | ((with_reducible apply opq); (focus exact rfl); (focus exact rfl); (focus (first | exact ev_eqI | exact ev_neI | exact ev_ltI | exact ev_leI | exact ev_gtI | exact ev_geI | exact ev_in2 | exact ev_in2n | exact ev_in4n | exact ev_isT | exact ev_isF | exact ev_isnT | exact ev_isnF | exact ev_strT | exact ev_strF n1 | exact ev_strF n2 | exact ev_strF n3 | exact ev_strF n4 | exact ev_strF n5 | exact ev_strF n6 | exact rfl)))
    | ((with_reducible apply unq); (focus exact rfl); (focus exact rfl))
    | ((with_reducible first | apply putqV | apply putqN); walk_at "put")
    | ((with_reducible apply putqB); (focus exact rfl); (focus exact rfl); walk_at "put"; walk_at "put")
    | ((with_reducible apply putq2); walk_at "put"; walk_at "put")
    | ((with_reducible apply parq); walk_at "put"; walk_at "put")
    | ((with_reducible apply wp_callR); (focus (repeat first | exact RefsR.nil | apply RefsR.v | apply RefsR.r)); (focus decide))
    | ((with_reducible apply wp_ar); (focus exact rfl))
    | ((with_reducible apply fin_rt); (focus exact rfl); (focus exact rfl))
    | ((with_reducible apply fin_nx); (focus exact rfl))
    | ((with_reducible apply wp_appendR); (focus exact rfl))
    | (with_reducible refine ⟨_, rfl, ?_⟩) | (with_reducible refine ⟨_, .inl rfl, ?_⟩) | (with_reducible refine ⟨_, .inr (.inl rfl), ?_⟩) | (with_reducible refine ⟨_, .inr (.inr rfl), ?_⟩)
    | (with_reducible apply callq0) | ((with_reducible apply frzB); (focus exact rfl); (focus exact rfl); walk_at "put")
    | ((with_reducible apply callq1); walk_at "set")
    | ((with_reducible apply callq2); walk_at "set"; walk_at "set")
    | ((with_reducible first | apply fgt_nx | apply fgt_bk | apply fgt_ct); walk_at "fgt")
    | ((with_reducible apply brT); (focus exact rfl)) | ((with_reducible apply brF); (focus exact rfl)))
local macro_rules
  | `(tactic| walk_at "r") => `(tactic| repeat first | walk_at "w" | walk_at "x")
local macro_rules
  | `(tactic| walk_at "ri") => `(tactic| repeat first | walk_at "w" | walk_at "x" | (with_reducible refine wp_if ?_))
local macro_rules
  | `(tactic| walk_at "app") => `(tactic| ((with_reducible apply appq); (focus exact rfl); (focus ((try simp only [List.length_map, List.length_nil, List.length_cons, List.length_append]); unfold line; omega)); walk_at "set"))
local macro_rules
  | `(tactic| walk_at "mul") => `(tactic| ((refine opq rfl rfl (ev_mul ?_) ?_); (focus (apply mulT <;> omega))))
local macro_rules
  | `(tactic| walk_at "rm") => `(tactic| repeat first | walk_at "w" | walk_at "x" | walk_at "mul")
local macro_rules
  | `(tactic| walk_at "len") => `(tactic| (refine And.intro ?_ ?_; (focus (simp [line]; done))))
local macro_rules
  | `(tactic| walk_at "rl") => `(tactic| repeat first | walk_at "w" | walk_at "x" | walk_at "len")
local macro_rules
  | `(tactic| walk_at "ril") => `(tactic| repeat first | walk_at "w" | walk_at "x" | walk_at "len" | (with_reducible refine wp_if ?_))
/-! dice -/
def nP (n : Nat) : PV := .int n
theorem isort_len (xs : List Int) : (isort xs).length = xs.length := (List.mergeSort_perm _ _).length_eq
theorem isort_mem {xs : List Int} {x : Int} : x ∈ isort xs ↔ x ∈ xs := (List.mergeSort_perm _ _).mem_iff
theorem isort_pw (ns : List Int) : (isort ns).Pairwise (· ≤ ·) := by
  have h := List.pairwise_mergeSort (le := fun a b : Int => decide (a ≤ b)) (fun a b c h1 h2 => by simp only [decide_eq_true_eq] at *; omega) (fun a b => by simp only [Bool.or_eq_true, decide_eq_true_eq]; omega) ns
  exact h.imp fun z => by simpa using z
theorem ev_sortI {xs : List Int} : fSorted (.ob (.lst (xs.map PyData.int))) = some (.new (.lst ((isort xs).map PyData.int))) := by simp [fSorted, Ct.lst?, ints_map]
/-- a die: not empty, ascending, faces from 1 to p -/
structure Die (p : Int) (xs : List Int) : Prop where
  ne : xs ≠ []
  len : xs.length ≤ 12
  lo : ∀ x ∈ xs, 1 ≤ x
  hi : ∀ x ∈ xs, x ≤ p
  asc : xs.Pairwise (· ≤ ·)
theorem of_die {ds : List Int} {f p : Int} (hf : 1 ≤ f) (hf2 : f ≤ 12) (hp : 1 ≤ p) (hp2 : p ≤ 30) {Q : R → List Ob → Prop} (k : ∀ xs ds', Die p xs → (xs.length : Int) = f → Q (.val (tupI xs)) [intsO ds']) : Ret d_law_die [.ref (intsO ds), .val (.int f), .val (.int p)] Q := by
  refine ret_mkR (by repeat constructor) ?_
  unfold b_law_die
  walk_at "r"
  refine wp_mid (fun ρ => ∃ (w : Int) (ds : List Int), 1 ≤ w ∧ w ≤ p ∧ ρ = [some (.ref (intsO ds)), some (.val (.int f)), some (.val (.int p)), some (.val (.int w)), none, none]) ?_ ?_
  · walk_at "ri"
    refine of_take (by decide) fun x ds _ _ => ?_
    walk_at "ri"
    refine branchD (fun h => ?_) fun h => ?_
    · walk_at "r"
      exact ⟨rfl, _, ds, by split <;> omega, by split <;> omega, rfl⟩
    · walk_at "r"
      exact ⟨rfl, p, ds, hp, by omega, rfl⟩
  rintro _ ⟨w, ds, hw1, hw2, rfl⟩
  walk_at "r"
  refine of_take (by omega) fun a ds ha1 ha2 => ?_
  walk_at "r"
  obtain ⟨n, rfl⟩ := Int.eq_ofNat_of_zero_le (show 0 ≤ f by omega)
  refine wp_lc nP (fun done acc ρ => ∃ (xs ds : List Int) (u : Option Sl), acc = xs.map PyData.int ∧ xs.length = done.length ∧ (∀ x ∈ xs, 1 ≤ x ∧ x ≤ p) ∧ isRef u = false ∧ ρ = [some (.ref (intsO ds)), some (.val (.int n)), some (.val (.int p)), some (.val (.int w)), some (.val (.int (1 + a))), u]) ?_
  refine wp_rng1 ?_
  walk_at "r"
  refine ⟨by unfold line; omega, List.range n, by simp [nP], by simp [line]; omega, ⟨[], ds, none, rfl, rfl, by simp, rfl, rfl⟩, ?_, ?_⟩
  · rintro done y rest _ _ e ⟨xs, ds, u, rfl, h1, h2, hu, rfl⟩
    refine lcqY rfl ?_
    dsimp only [wipe, set_s, set_z, nP]
    unfold e1_law_die
    walk_at "r"
    refine of_take (by omega) fun b ds hb1 hb2 => ?_
    walk_at "r"
    refine ⟨xs ++ [1 + a + b], ds, _, by simp, by simp [h1], ?_, rfl, rfl⟩
    intro x hx
    rcases List.mem_append.mp hx with hx | hx
    · exact h2 x hx
    · rw [List.mem_singleton.mp hx]; omega
  rintro _ _ ⟨xs, ds, u, rfl, h1, h2, hu, rfl⟩
  dsimp only [back, set_s, set_z, get_s, get_z]
  refine unq rfl ev_sortI ?_
  walk_at "r"
  rw [List.length_range] at h1
  refine k (isort xs) ds ⟨?_, by rw [isort_len]; omega, fun x hx => (h2 x (isort_mem.mp hx)).1, fun x hx => (h2 x (isort_mem.mp hx)).2, isort_pw xs⟩ (by rw [isort_len]; omega)
  intro z
  have := isort_len xs
  rw [z] at this
  simp at this
  omega
end Py
namespace Py
open PySem D
local macro_rules
  | `(tactic| walk_at "w") => `(tactic| with_reducible first
    | refine seq_nx ?_ | refine seq_rt ?_ | refine seq_bk ?_ | refine seq_ct ?_ | refine wp_seq ?_ | refine wp_asg ?_ | refine wp_next ?_ | refine wp_ret ?_ | refine wp_retN ?_ | refine wp_brk ?_ | refine wp_cont ?_ | refine wp_expr ?_ | refine wp_op ?_ | refine wp_un ?_ | refine wp_c ?_
    | refine unB ?_ | refine wp_truB ?_ | refine wp_and ?_ | refine wp_or ?_ | refine wp_not ?_ | refine wp_ifE ?_ | refine wp_tup ?_ | refine wp_lst ?_ | refine wp_lcons ?_ | refine wp_lnil ?_ | refine frzV ?_ | refine frzN ?_ | refine wp_frz ?_ | refine wp_sl ?_ | refine wp_onone ?_ | refine wp_osome ?_
    | refine wp_anil ?_ | refine wp_av ?_ | refine wp_andV ?_ | refine wp_orV ?_ | refine wp_notV ?_ | refine wp_fgtR ?_ | refine turn_nx ?_ | refine turn_rt ?_ | refine turn_bk ?_ | refine turn_ct ?_ | refine fgt_rt ?_ | refine wp_par ?_ | refine wp_chain ?_ | refine wp_seqI ?_)
local macro_rules
  | `(tactic| walk_at "put") => `(tactic| focus ((repeat apply PutR.s); first | exact PutR.z rfl | exact PutR.z (by assumption)))
local macro_rules
  | `(tactic| walk_at "set") => `(tactic| focus ((repeat apply SetR.s); first | exact SetR.o | exact SetR.r))
local macro_rules
  | `(tactic| walk_at "fgt") => `(tactic| focus (repeat first | exact FgtsR.nil | exact FgtR.k | exact FgtR.z rfl | exact FgtR.z (by assumption) | apply FgtR.s | apply FgtsR.cons))
local macro_rules
  | `(tactic| walk_at "x") => `(tactic| first
    | ((with_reducible apply wp_varV); (focus exact rfl)) | ((with_reducible apply wp_varO); (focus exact rfl)) | ((with_reducible apply wp_varR); (focus exact rfl))
    | ((with_reducible apply opq); (focus exact rfl); (focus exact rfl); (focus (first | exact ev_eqI | exact ev_neI | exact ev_ltI | exact ev_leI | exact ev_gtI | exact ev_geI | exact ev_in2 | exact ev_in2n | exact ev_in4n | exact ev_isT | exact ev_isF | exact ev_isnT | exact ev_isnF | exact ev_strT | exact ev_strF n1 | exact ev_strF n2 | exact ev_strF n3 | exact ev_strF n4 | exact ev_strF n5 | exact ev_strF n6 | exact rfl)))
    | ((with_reducible apply unq); (focus exact rfl); (focus exact rfl))
    | ((with_reducible first | apply putqV | apply putqN); walk_at "put")
    | ((with_reducible apply putqB); (focus exact rfl); (focus exact rfl); walk_at "put"; walk_at "put")
    | ((with_reducible apply putq2); walk_at "put"; walk_at "put")
    | ((with_reducible apply parq); walk_at "put"; walk_at "put")
    | ((with_reducible apply wp_callR); (focus (repeat first | exact RefsR.nil | apply RefsR.v | apply RefsR.r)); (focus decide))
    | ((with_reducible apply wp_ar); (focus exact rfl))
    | ((with_reducible apply fin_rt); (focus exact rfl); (focus exact rfl))
    | ((with_reducible apply fin_nx); (focus exact rfl))
    | ((with_reducible apply wp_appendR); (focus exact rfl))
    | (with_reducible refine ⟨_, rfl, ?_⟩) | (with_reducible refine ⟨_, .inl rfl, ?_⟩) | (with_reducible refine ⟨_, .inr (.inl rfl), ?_⟩) | (with_reducible refine ⟨_, .inr (.inr rfl), ?_⟩)
    | (with_reducible apply callq0) | ((with_reducible apply frzB); (focus exact rfl); (focus exact rfl); walk_at "put")
    | ((with_reducible apply callq1); walk_at "set")
    | ((with_reducible apply callq2); walk_at "set"; walk_at "set")
    | ((with_reducible first | apply fgt_nx | apply fgt_bk | apply fgt_ct); walk_at "fgt")
    | ((with_reducible apply brT); (focus exact rfl)) | ((with_reducible apply brF); (focus exact rfl)))
local macro_rules
  | `(tactic| walk_at "r") => `(tactic| repeat first | walk_at "w" | walk_at "x")
local macro_rules
  | `(tactic| walk_at "ri") => `(tactic| repeat first | walk_at "w" | walk_at "x" | (with_reducible refine wp_if ?_))
local macro_rules
  | `(tactic| walk_at "app") => `(tactic| ((with_reducible apply appq); (focus exact rfl); (focus ((try simp only [List.length_map, List.length_nil, List.length_cons, List.length_append]); unfold line; omega)); walk_at "set"))
local macro_rules
  | `(tactic| walk_at "mul") => `(tactic| ((refine opq rfl rfl (ev_mul ?_) ?_); (focus (apply mulT <;> omega))))
local macro_rules
  | `(tactic| walk_at "rm") => `(tactic| repeat first | walk_at "w" | walk_at "x" | walk_at "mul")
local macro_rules
  | `(tactic| walk_at "len") => `(tactic| (refine And.intro ?_ ?_; (focus (simp [line]; done))))
local macro_rules
  | `(tactic| walk_at "rl") => `(tactic| repeat first | walk_at "w" | walk_at "x" | walk_at "len")
local macro_rules
  | `(tactic| walk_at "ril") => `(tactic| repeat first | walk_at "w" | walk_at "x" | walk_at "len" | (with_reducible refine wp_if ?_))
instance {p : Int × Int} : Decidable (Low p) := by unfold Low; infer_instance
theorem eqvFr (p q : Int × Int) : PyData.eqv (fr p) (fr q) = decide (p = q) := by
  unfold fr
  simp only [PyData.eqv, PyData.eqvAll, Bool.and_true]
  by_cases c : p = q
  · subst c; simp
  · rw [decide_eq_false c]
    by_cases c1 : p.1 = q.1
    · have : p.2 ≠ q.2 := fun z => c (Prod.ext c1 z)
      simp [c1, this]
    · simp [c1]
def Okr (row : List (Int × Int)) : Prop := row.length ≤ 100 ∧ ∀ p ∈ row, Low p → Bt 350 p
def stakesB (m : Nat) (row : List (Int × Int)) : Bool := decide (row.length = m) && row.all (fun p => decide (Low p)) && row.all fun p => decide (0 ≤ p.1)
def sureB (n : Nat) (bets : List (List (Int × Int))) (row : List (Int × Int)) : Bool := stakesB bets.length row && (gainsV n bets row).all fun g => decide (0 < g.1)
section
variable {Q : R → List Ob → Prop} {ρ : Env} {n m : Nat} {bets : List (List (Int × Int))} {row : List (Int × Int)}
end
end Py
namespace Py
open PySem D
local macro_rules
  | `(tactic| walk_at "w") => `(tactic| with_reducible first
    | refine seq_nx ?_ | refine seq_rt ?_ | refine seq_bk ?_ | refine seq_ct ?_ | refine wp_seq ?_ | refine wp_asg ?_ | refine wp_next ?_ | refine wp_ret ?_ | refine wp_retN ?_ | refine wp_brk ?_ | refine wp_cont ?_ | refine wp_expr ?_ | refine wp_op ?_ | refine wp_un ?_ | refine wp_c ?_
    | refine unB ?_ | refine wp_truB ?_ | refine wp_and ?_ | refine wp_or ?_ | refine wp_not ?_ | refine wp_ifE ?_ | refine wp_tup ?_ | refine wp_lst ?_ | refine wp_lcons ?_ | refine wp_lnil ?_ | refine frzV ?_ | refine frzN ?_ | refine wp_frz ?_ | refine wp_sl ?_ | refine wp_onone ?_ | refine wp_osome ?_
    | refine wp_anil ?_ | refine wp_av ?_ | refine wp_andV ?_ | refine wp_orV ?_ | refine wp_notV ?_ | refine wp_fgtR ?_ | refine turn_nx ?_ | refine turn_rt ?_ | refine turn_bk ?_ | refine turn_ct ?_ | refine fgt_rt ?_ | refine wp_par ?_ | refine wp_chain ?_ | refine wp_seqI ?_)
local macro_rules
  | `(tactic| walk_at "put") => `(tactic| focus ((repeat apply PutR.s); first | exact PutR.z rfl | exact PutR.z (by assumption)))
local macro_rules
  | `(tactic| walk_at "set") => `(tactic| focus ((repeat apply SetR.s); first | exact SetR.o | exact SetR.r))
local macro_rules
  | `(tactic| walk_at "fgt") => `(tactic| focus (repeat first | exact FgtsR.nil | exact FgtR.k | exact FgtR.z rfl | exact FgtR.z (by assumption) | apply FgtR.s | apply FgtsR.cons))
local macro_rules
  | `(tactic| walk_at "x") => `(tactic| first
    | ((with_reducible apply wp_varV); (focus exact rfl)) | ((with_reducible apply wp_varO); (focus exact rfl)) | ((with_reducible apply wp_varR); (focus exact rfl))
    | ((with_reducible apply opq); (focus exact rfl); (focus exact rfl); (focus (first | exact ev_eqI | exact ev_neI | exact ev_ltI | exact ev_leI | exact ev_gtI | exact ev_geI | exact ev_in2 | exact ev_in2n | exact ev_in4n | exact ev_isT | exact ev_isF | exact ev_isnT | exact ev_isnF | exact ev_strT | exact ev_strF n1 | exact ev_strF n2 | exact ev_strF n3 | exact ev_strF n4 | exact ev_strF n5 | exact ev_strF n6 | exact rfl)))
    | ((with_reducible apply unq); (focus exact rfl); (focus exact rfl))
    | ((with_reducible first | apply putqV | apply putqN); walk_at "put")
    | ((with_reducible apply putqB); (focus exact rfl); (focus exact rfl); walk_at "put"; walk_at "put")
    | ((with_reducible apply putq2); walk_at "put"; walk_at "put")
    | ((with_reducible apply parq); walk_at "put"; walk_at "put")
    | ((with_reducible apply wp_callR); (focus (repeat first | exact RefsR.nil | apply RefsR.v | apply RefsR.r)); (focus decide))
    | ((with_reducible apply wp_ar); (focus exact rfl))
    | ((with_reducible apply fin_rt); (focus exact rfl); (focus exact rfl))
    | ((with_reducible apply fin_nx); (focus exact rfl))
    | ((with_reducible apply wp_appendR); (focus exact rfl))
    | (with_reducible refine ⟨_, rfl, ?_⟩) | (with_reducible refine ⟨_, .inl rfl, ?_⟩) | (with_reducible refine ⟨_, .inr (.inl rfl), ?_⟩) | (with_reducible refine ⟨_, .inr (.inr rfl), ?_⟩)
    | (with_reducible apply callq0) | ((with_reducible apply frzB); (focus exact rfl); (focus exact rfl); walk_at "put")
    | ((with_reducible apply callq1); walk_at "set")
    | ((with_reducible apply callq2); walk_at "set"; walk_at "set")
    | ((with_reducible first | apply fgt_nx | apply fgt_bk | apply fgt_ct); walk_at "fgt")
    | ((with_reducible apply brT); (focus exact rfl)) | ((with_reducible apply brF); (focus exact rfl)))
local macro_rules
  | `(tactic| walk_at "r") => `(tactic| repeat first | walk_at "w" | walk_at "x")
local macro_rules
  | `(tactic| walk_at "ri") => `(tactic| repeat first | walk_at "w" | walk_at "x" | (with_reducible refine wp_if ?_))
local macro_rules
  | `(tactic| walk_at "app") => `(tactic| ((with_reducible apply appq); (focus exact rfl); (focus ((try simp only [List.length_map, List.length_nil, List.length_cons, List.length_append]); unfold line; omega)); walk_at "set"))
local macro_rules
  | `(tactic| walk_at "mul") => `(tactic| ((refine opq rfl rfl (ev_mul ?_) ?_); (focus (apply mulT <;> omega))))
local macro_rules
  | `(tactic| walk_at "rm") => `(tactic| repeat first | walk_at "w" | walk_at "x" | walk_at "mul")
local macro_rules
  | `(tactic| walk_at "len") => `(tactic| (refine And.intro ?_ ?_; (focus (simp [line]; done))))
local macro_rules
  | `(tactic| walk_at "rl") => `(tactic| repeat first | walk_at "w" | walk_at "x" | walk_at "len")
local macro_rules
  | `(tactic| walk_at "ril") => `(tactic| repeat first | walk_at "w" | walk_at "x" | walk_at "len" | (with_reducible refine wp_if ?_))
structure Fb (m : Nat) (p : Int × Int) : Prop where
  low : Low p
  bt : Bt m p
theorem Fb.mono {m n : Nat} {p : Int × Int} (h : Fb m p) (hmn : m ≤ n) : Fb n p := ⟨h.low, h.bt.mono hmn⟩
theorem Fb.ne {m : Nat} {p : Int × Int} (h : Fb m p) : p.2 ≠ 0 := h.low.ne
theorem Fb.pos {m : Nat} {p : Int × Int} (h : Fb m p) : 0 < p.2 := h.low.1
def scaledV (row : List (Int × Int)) (by' : Int × Int) : List (Int × Int) := row.map fun p => timesV p by'
def shiftedV (row : List (Int × Int)) (by' : Int × Int) : List (Int × Int) := row.map fun p => plusV p by'
def turnedV (row : List (Int × Int)) : List (Int × Int) := row.map fun p => (-p.1, p.2)
def putV (row : List (Int × Int)) (j : Nat) (p : Int × Int) : List (Int × Int) := row.set j p
section
variable {Q : R → List Ob → Prop} {ρ : Env} {n m : Nat} {row : List (Int × Int)} {ns ds : List Int}
end
end Py
namespace Py
open PySem D
local macro_rules
  | `(tactic| walk_at "w") => `(tactic| with_reducible first
    | refine seq_nx ?_ | refine seq_rt ?_ | refine seq_bk ?_ | refine seq_ct ?_ | refine wp_seq ?_ | refine wp_asg ?_ | refine wp_next ?_ | refine wp_ret ?_ | refine wp_retN ?_ | refine wp_brk ?_ | refine wp_cont ?_ | refine wp_expr ?_ | refine wp_op ?_ | refine wp_un ?_ | refine wp_c ?_
    | refine unB ?_ | refine wp_truB ?_ | refine wp_and ?_ | refine wp_or ?_ | refine wp_not ?_ | refine wp_ifE ?_ | refine wp_tup ?_ | refine wp_lst ?_ | refine wp_lcons ?_ | refine wp_lnil ?_ | refine frzV ?_ | refine frzN ?_ | refine wp_frz ?_ | refine wp_sl ?_ | refine wp_onone ?_ | refine wp_osome ?_
    | refine wp_anil ?_ | refine wp_av ?_ | refine wp_andV ?_ | refine wp_orV ?_ | refine wp_notV ?_ | refine wp_fgtR ?_ | refine turn_nx ?_ | refine turn_rt ?_ | refine turn_bk ?_ | refine turn_ct ?_ | refine fgt_rt ?_ | refine wp_par ?_ | refine wp_chain ?_ | refine wp_seqI ?_)
local macro_rules
  | `(tactic| walk_at "put") => `(tactic| focus ((repeat apply PutR.s); first | exact PutR.z rfl | exact PutR.z (by assumption)))
local macro_rules
  | `(tactic| walk_at "set") => `(tactic| focus ((repeat apply SetR.s); first | exact SetR.o | exact SetR.r))
local macro_rules
  | `(tactic| walk_at "fgt") => `(tactic| focus (repeat first | exact FgtsR.nil | exact FgtR.k | exact FgtR.z rfl | exact FgtR.z (by assumption) | apply FgtR.s | apply FgtsR.cons))
local macro_rules
  | `(tactic| walk_at "x") => `(tactic| first
    | ((with_reducible apply wp_varV); (focus exact rfl)) | ((with_reducible apply wp_varO); (focus exact rfl)) | ((with_reducible apply wp_varR); (focus exact rfl))
    | ((with_reducible apply opq); (focus exact rfl); (focus exact rfl); (focus (first | exact ev_eqI | exact ev_neI | exact ev_ltI | exact ev_leI | exact ev_gtI | exact ev_geI | exact ev_in2 | exact ev_in2n | exact ev_in4n | exact ev_isT | exact ev_isF | exact ev_isnT | exact ev_isnF | exact ev_strT | exact ev_strF n1 | exact ev_strF n2 | exact ev_strF n3 | exact ev_strF n4 | exact ev_strF n5 | exact ev_strF n6 | exact rfl)))
    | ((with_reducible apply unq); (focus exact rfl); (focus exact rfl))
    | ((with_reducible first | apply putqV | apply putqN); walk_at "put")
    | ((with_reducible apply putqB); (focus exact rfl); (focus exact rfl); walk_at "put"; walk_at "put")
    | ((with_reducible apply putq2); walk_at "put"; walk_at "put")
    | ((with_reducible apply parq); walk_at "put"; walk_at "put")
    | ((with_reducible apply wp_callR); (focus (repeat first | exact RefsR.nil | apply RefsR.v | apply RefsR.r)); (focus decide))
    | ((with_reducible apply wp_ar); (focus exact rfl))
    | ((with_reducible apply fin_rt); (focus exact rfl); (focus exact rfl))
    | ((with_reducible apply fin_nx); (focus exact rfl))
    | ((with_reducible apply wp_appendR); (focus exact rfl))
    | (with_reducible refine ⟨_, rfl, ?_⟩) | (with_reducible refine ⟨_, .inl rfl, ?_⟩) | (with_reducible refine ⟨_, .inr (.inl rfl), ?_⟩) | (with_reducible refine ⟨_, .inr (.inr rfl), ?_⟩)
    | (with_reducible apply callq0) | ((with_reducible apply frzB); (focus exact rfl); (focus exact rfl); walk_at "put")
    | ((with_reducible apply callq1); walk_at "set")
    | ((with_reducible apply callq2); walk_at "set"; walk_at "set")
    | ((with_reducible first | apply fgt_nx | apply fgt_bk | apply fgt_ct); walk_at "fgt")
    | ((with_reducible apply brT); (focus exact rfl)) | ((with_reducible apply brF); (focus exact rfl)))
local macro_rules
  | `(tactic| walk_at "r") => `(tactic| repeat first | walk_at "w" | walk_at "x")
local macro_rules
  | `(tactic| walk_at "ri") => `(tactic| repeat first | walk_at "w" | walk_at "x" | (with_reducible refine wp_if ?_))
local macro_rules
  | `(tactic| walk_at "app") => `(tactic| ((with_reducible apply appq); (focus exact rfl); (focus ((try simp only [List.length_map, List.length_nil, List.length_cons, List.length_append]); unfold line; omega)); walk_at "set"))
local macro_rules
  | `(tactic| walk_at "mul") => `(tactic| ((refine opq rfl rfl (ev_mul ?_) ?_); (focus (apply mulT <;> omega))))
local macro_rules
  | `(tactic| walk_at "rm") => `(tactic| repeat first | walk_at "w" | walk_at "x" | walk_at "mul")
local macro_rules
  | `(tactic| walk_at "len") => `(tactic| (refine And.intro ?_ ?_; (focus (simp [line]; done))))
local macro_rules
  | `(tactic| walk_at "rl") => `(tactic| repeat first | walk_at "w" | walk_at "x" | walk_at "len")
local macro_rules
  | `(tactic| walk_at "ril") => `(tactic| repeat first | walk_at "w" | walk_at "x" | walk_at "len" | (with_reducible refine wp_if ?_))
theorem rat_nn {n d : Int} (hn : 0 ≤ n) (hd : 0 < d) : 0 ≤ (rat n d).1 := by
  have h1 := rat_cross (n := n) (d := d) (by omega)
  have h2 := (low_rat (n := n) (d := d) (by omega)).1
  rcases Int.lt_or_le (rat n d).1 0 with h | h
  · have h3 := Int.mul_nonneg hn (Int.le_of_lt h2)
    have h4 := Int.mul_neg_of_neg_of_pos h hd
    omega
  · exact h
structure Chs (n : Nat) (ch : List (Int × Int)) : Prop where
  len : ch.length = n
  fb : ∀ p ∈ ch, Fb 11 p ∧ 0 ≤ p.1
  sum : (ch.map qv).sum = 1
def dotR (ps qs : List (Int × Int)) : Rat := (List.zipWith (fun p q => qv p * qv q) ps qs).sum
section
end
end Py
namespace Py
open PySem D
local macro_rules
  | `(tactic| walk_at "w") => `(tactic| with_reducible first
    | refine seq_nx ?_ | refine seq_rt ?_ | refine seq_bk ?_ | refine seq_ct ?_ | refine wp_seq ?_ | refine wp_asg ?_ | refine wp_next ?_ | refine wp_ret ?_ | refine wp_retN ?_ | refine wp_brk ?_ | refine wp_cont ?_ | refine wp_expr ?_ | refine wp_op ?_ | refine wp_un ?_ | refine wp_c ?_
    | refine unB ?_ | refine wp_truB ?_ | refine wp_and ?_ | refine wp_or ?_ | refine wp_not ?_ | refine wp_ifE ?_ | refine wp_tup ?_ | refine wp_lst ?_ | refine wp_lcons ?_ | refine wp_lnil ?_ | refine frzV ?_ | refine frzN ?_ | refine wp_frz ?_ | refine wp_sl ?_ | refine wp_onone ?_ | refine wp_osome ?_
    | refine wp_anil ?_ | refine wp_av ?_ | refine wp_andV ?_ | refine wp_orV ?_ | refine wp_notV ?_ | refine wp_fgtR ?_ | refine turn_nx ?_ | refine turn_rt ?_ | refine turn_bk ?_ | refine turn_ct ?_ | refine fgt_rt ?_ | refine wp_par ?_ | refine wp_chain ?_ | refine wp_seqI ?_)
local macro_rules
  | `(tactic| walk_at "put") => `(tactic| focus ((repeat apply PutR.s); first | exact PutR.z rfl | exact PutR.z (by assumption)))
local macro_rules
  | `(tactic| walk_at "set") => `(tactic| focus ((repeat apply SetR.s); first | exact SetR.o | exact SetR.r))
local macro_rules
  | `(tactic| walk_at "fgt") => `(tactic| focus (repeat first | exact FgtsR.nil | exact FgtR.k | exact FgtR.z rfl | exact FgtR.z (by assumption) | apply FgtR.s | apply FgtsR.cons))
local macro_rules
  | `(tactic| walk_at "x") => `(tactic| first
    | ((with_reducible apply wp_varV); (focus exact rfl)) | ((with_reducible apply wp_varO); (focus exact rfl)) | ((with_reducible apply wp_varR); (focus exact rfl))
    | ((with_reducible apply opq); (focus exact rfl); (focus exact rfl); (focus (first | exact ev_eqI | exact ev_neI | exact ev_ltI | exact ev_leI | exact ev_gtI | exact ev_geI | exact ev_in2 | exact ev_in2n | exact ev_in4n | exact ev_isT | exact ev_isF | exact ev_isnT | exact ev_isnF | exact ev_strT | exact ev_strF n1 | exact ev_strF n2 | exact ev_strF n3 | exact ev_strF n4 | exact ev_strF n5 | exact ev_strF n6 | exact rfl)))
    | ((with_reducible apply unq); (focus exact rfl); (focus exact rfl))
    | ((with_reducible first | apply putqV | apply putqN); walk_at "put")
    | ((with_reducible apply putqB); (focus exact rfl); (focus exact rfl); walk_at "put"; walk_at "put")
    | ((with_reducible apply putq2); walk_at "put"; walk_at "put")
    | ((with_reducible apply parq); walk_at "put"; walk_at "put")
    | ((with_reducible apply wp_callR); (focus (repeat first | exact RefsR.nil | apply RefsR.v | apply RefsR.r)); (focus decide))
    | ((with_reducible apply wp_ar); (focus exact rfl))
    | ((with_reducible apply fin_rt); (focus exact rfl); (focus exact rfl))
    | ((with_reducible apply fin_nx); (focus exact rfl))
    | ((with_reducible apply wp_appendR); (focus exact rfl))
    | (with_reducible refine ⟨_, rfl, ?_⟩) | (with_reducible refine ⟨_, .inl rfl, ?_⟩) | (with_reducible refine ⟨_, .inr (.inl rfl), ?_⟩) | (with_reducible refine ⟨_, .inr (.inr rfl), ?_⟩)
    | (with_reducible apply callq0) | ((with_reducible apply frzB); (focus exact rfl); (focus exact rfl); walk_at "put")
    | ((with_reducible apply callq1); walk_at "set")
    | ((with_reducible apply callq2); walk_at "set"; walk_at "set")
    | ((with_reducible first | apply fgt_nx | apply fgt_bk | apply fgt_ct); walk_at "fgt")
    | ((with_reducible apply brT); (focus exact rfl)) | ((with_reducible apply brF); (focus exact rfl)))
local macro_rules
  | `(tactic| walk_at "r") => `(tactic| repeat first | walk_at "w" | walk_at "x")
local macro_rules
  | `(tactic| walk_at "ri") => `(tactic| repeat first | walk_at "w" | walk_at "x" | (with_reducible refine wp_if ?_))
local macro_rules
  | `(tactic| walk_at "app") => `(tactic| ((with_reducible apply appq); (focus exact rfl); (focus ((try simp only [List.length_map, List.length_nil, List.length_cons, List.length_append]); unfold line; omega)); walk_at "set"))
local macro_rules
  | `(tactic| walk_at "mul") => `(tactic| ((refine opq rfl rfl (ev_mul ?_) ?_); (focus (apply mulT <;> omega))))
local macro_rules
  | `(tactic| walk_at "rm") => `(tactic| repeat first | walk_at "w" | walk_at "x" | walk_at "mul")
local macro_rules
  | `(tactic| walk_at "len") => `(tactic| (refine And.intro ?_ ?_; (focus (simp [line]; done))))
local macro_rules
  | `(tactic| walk_at "rl") => `(tactic| repeat first | walk_at "w" | walk_at "x" | walk_at "len")
local macro_rules
  | `(tactic| walk_at "ril") => `(tactic| repeat first | walk_at "w" | walk_at "x" | walk_at "len" | (with_reducible refine wp_if ?_))
theorem Chs.bt {n : Nat} {ch : List (Int × Int)} (h : Chs n ch) : ∀ p ∈ ch, Bt 11 p := fun p hp => (h.fb p hp).1.bt
theorem Chs.pos {n : Nat} {ch : List (Int × Int)} (h : Chs n ch) : ∀ p ∈ ch, 0 < p.2 := fun p hp => (h.bt p hp).1
section
variable {Q : R → List Ob → Prop} {ρ : Env} {n m : Nat} {row ch : List (Int × Int)} {ns ds : List Int}
end
end Py
namespace Py
open PySem D
local macro_rules
  | `(tactic| walk_at "w") => `(tactic| with_reducible first
    | refine seq_nx ?_ | refine seq_rt ?_ | refine seq_bk ?_ | refine seq_ct ?_ | refine wp_seq ?_ | refine wp_asg ?_ | refine wp_next ?_ | refine wp_ret ?_ | refine wp_retN ?_ | refine wp_brk ?_ | refine wp_cont ?_ | refine wp_expr ?_ | refine wp_op ?_ | refine wp_un ?_ | refine wp_c ?_
    | refine unB ?_ | refine wp_truB ?_ | refine wp_and ?_ | refine wp_or ?_ | refine wp_not ?_ | refine wp_ifE ?_ | refine wp_tup ?_ | refine wp_lst ?_ | refine wp_lcons ?_ | refine wp_lnil ?_ | refine frzV ?_ | refine frzN ?_ | refine wp_frz ?_ | refine wp_sl ?_ | refine wp_onone ?_ | refine wp_osome ?_
    | refine wp_anil ?_ | refine wp_av ?_ | refine wp_andV ?_ | refine wp_orV ?_ | refine wp_notV ?_ | refine wp_fgtR ?_ | refine turn_nx ?_ | refine turn_rt ?_ | refine turn_bk ?_ | refine turn_ct ?_ | refine fgt_rt ?_ | refine wp_par ?_ | refine wp_chain ?_ | refine wp_seqI ?_)
local macro_rules
  | `(tactic| walk_at "put") => `(tactic| focus ((repeat apply PutR.s); first | exact PutR.z rfl | exact PutR.z (by assumption)))
local macro_rules
  | `(tactic| walk_at "set") => `(tactic| focus ((repeat apply SetR.s); first | exact SetR.o | exact SetR.r))
local macro_rules
  | `(tactic| walk_at "fgt") => `(tactic| focus (repeat first | exact FgtsR.nil | exact FgtR.k | exact FgtR.z rfl | exact FgtR.z (by assumption) | apply FgtR.s | apply FgtsR.cons))
local macro_rules
  | `(tactic| walk_at "x") => `(tactic| first
    | ((with_reducible apply wp_varV); (focus exact rfl)) | ((with_reducible apply wp_varO); (focus exact rfl)) | ((with_reducible apply wp_varR); (focus exact rfl))
    | ((with_reducible apply opq); (focus exact rfl); (focus exact rfl); (focus (first | exact ev_eqI | exact ev_neI | exact ev_ltI | exact ev_leI | exact ev_gtI | exact ev_geI | exact ev_in2 | exact ev_in2n | exact ev_in4n | exact ev_isT | exact ev_isF | exact ev_isnT | exact ev_isnF | exact ev_strT | exact ev_strF n1 | exact ev_strF n2 | exact ev_strF n3 | exact ev_strF n4 | exact ev_strF n5 | exact ev_strF n6 | exact rfl)))
    | ((with_reducible apply unq); (focus exact rfl); (focus exact rfl))
    | ((with_reducible first | apply putqV | apply putqN); walk_at "put")
    | ((with_reducible apply putqB); (focus exact rfl); (focus exact rfl); walk_at "put"; walk_at "put")
    | ((with_reducible apply putq2); walk_at "put"; walk_at "put")
    | ((with_reducible apply parq); walk_at "put"; walk_at "put")
    | ((with_reducible apply wp_callR); (focus (repeat first | exact RefsR.nil | apply RefsR.v | apply RefsR.r)); (focus decide))
    | ((with_reducible apply wp_ar); (focus exact rfl))
    | ((with_reducible apply fin_rt); (focus exact rfl); (focus exact rfl))
    | ((with_reducible apply fin_nx); (focus exact rfl))
    | ((with_reducible apply wp_appendR); (focus exact rfl))
    | (with_reducible refine ⟨_, rfl, ?_⟩) | (with_reducible refine ⟨_, .inl rfl, ?_⟩) | (with_reducible refine ⟨_, .inr (.inl rfl), ?_⟩) | (with_reducible refine ⟨_, .inr (.inr rfl), ?_⟩)
    | (with_reducible apply callq0) | ((with_reducible apply frzB); (focus exact rfl); (focus exact rfl); walk_at "put")
    | ((with_reducible apply callq1); walk_at "set")
    | ((with_reducible apply callq2); walk_at "set"; walk_at "set")
    | ((with_reducible first | apply fgt_nx | apply fgt_bk | apply fgt_ct); walk_at "fgt")
    | ((with_reducible apply brT); (focus exact rfl)) | ((with_reducible apply brF); (focus exact rfl)))
local macro_rules
  | `(tactic| walk_at "r") => `(tactic| repeat first | walk_at "w" | walk_at "x")
local macro_rules
  | `(tactic| walk_at "ri") => `(tactic| repeat first | walk_at "w" | walk_at "x" | (with_reducible refine wp_if ?_))
local macro_rules
  | `(tactic| walk_at "app") => `(tactic| ((with_reducible apply appq); (focus exact rfl); (focus ((try simp only [List.length_map, List.length_nil, List.length_cons, List.length_append]); unfold line; omega)); walk_at "set"))
local macro_rules
  | `(tactic| walk_at "mul") => `(tactic| ((refine opq rfl rfl (ev_mul ?_) ?_); (focus (apply mulT <;> omega))))
local macro_rules
  | `(tactic| walk_at "rm") => `(tactic| repeat first | walk_at "w" | walk_at "x" | walk_at "mul")
local macro_rules
  | `(tactic| walk_at "len") => `(tactic| (refine And.intro ?_ ?_; (focus (simp [line]; done))))
local macro_rules
  | `(tactic| walk_at "rl") => `(tactic| repeat first | walk_at "w" | walk_at "x" | walk_at "len")
local macro_rules
  | `(tactic| walk_at "ril") => `(tactic| repeat first | walk_at "w" | walk_at "x" | walk_at "len" | (with_reducible refine wp_if ?_))
theorem range_eq {n y : Nat} {done rest : List Nat} (e : List.range n = done ++ y :: rest) : y = done.length ∧ y < n := by
  have h : (List.range n)[done.length]? = some y := by rw [e]; simp
  obtain ⟨h1, h2⟩ := List.getElem?_eq_some_iff.mp h
  rw [List.getElem_range] at h2
  rw [List.length_range] at h1
  omega
section
variable {Q : R → List Ob → Prop} {ρ : Env} {n many : Nat} {ns ds : List Int}
def SbQ (n many : Nat) (B : List (List (Int × Int))) (S : List (Int × Int)) : Prop := B.length = many ∧ S.length = many ∧ (∀ b ∈ B, b.length = n ∧ ∀ p ∈ b, Fb 199 p) ∧ (∀ p ∈ S, Fb 30 p ∧ 0 ≤ p.1) ∧ ∀ j, j < n → ∃ A : Int × Int, Bt 61 A ∧ 0 < A.1 ∧ dotR S (col B j) = qv A
end
end Py
namespace Py
open PySem D
local macro_rules
  | `(tactic| walk_at "w") => `(tactic| with_reducible first
    | refine seq_nx ?_ | refine seq_rt ?_ | refine seq_bk ?_ | refine seq_ct ?_ | refine wp_seq ?_ | refine wp_asg ?_ | refine wp_next ?_ | refine wp_ret ?_ | refine wp_retN ?_ | refine wp_brk ?_ | refine wp_cont ?_ | refine wp_expr ?_ | refine wp_op ?_ | refine wp_un ?_ | refine wp_c ?_
    | refine unB ?_ | refine wp_truB ?_ | refine wp_and ?_ | refine wp_or ?_ | refine wp_not ?_ | refine wp_ifE ?_ | refine wp_tup ?_ | refine wp_lst ?_ | refine wp_lcons ?_ | refine wp_lnil ?_ | refine frzV ?_ | refine frzN ?_ | refine wp_frz ?_ | refine wp_sl ?_ | refine wp_onone ?_ | refine wp_osome ?_
    | refine wp_anil ?_ | refine wp_av ?_ | refine wp_andV ?_ | refine wp_orV ?_ | refine wp_notV ?_ | refine wp_fgtR ?_ | refine turn_nx ?_ | refine turn_rt ?_ | refine turn_bk ?_ | refine turn_ct ?_ | refine fgt_rt ?_ | refine wp_par ?_ | refine wp_chain ?_ | refine wp_seqI ?_)
local macro_rules
  | `(tactic| walk_at "put") => `(tactic| focus ((repeat apply PutR.s); first | exact PutR.z rfl | exact PutR.z (by assumption)))
local macro_rules
  | `(tactic| walk_at "set") => `(tactic| focus ((repeat apply SetR.s); first | exact SetR.o | exact SetR.r))
local macro_rules
  | `(tactic| walk_at "fgt") => `(tactic| focus (repeat first | exact FgtsR.nil | exact FgtR.k | exact FgtR.z rfl | exact FgtR.z (by assumption) | apply FgtR.s | apply FgtsR.cons))
local macro_rules
  | `(tactic| walk_at "x") => `(tactic| first
    | ((with_reducible apply wp_varV); (focus exact rfl)) | ((with_reducible apply wp_varO); (focus exact rfl)) | ((with_reducible apply wp_varR); (focus exact rfl))
    | ((with_reducible apply opq); (focus exact rfl); (focus exact rfl); (focus (first | exact ev_eqI | exact ev_neI | exact ev_ltI | exact ev_leI | exact ev_gtI | exact ev_geI | exact ev_in2 | exact ev_in2n | exact ev_in4n | exact ev_isT | exact ev_isF | exact ev_isnT | exact ev_isnF | exact ev_strT | exact ev_strF n1 | exact ev_strF n2 | exact ev_strF n3 | exact ev_strF n4 | exact ev_strF n5 | exact ev_strF n6 | exact rfl)))
    | ((with_reducible apply unq); (focus exact rfl); (focus exact rfl))
    | ((with_reducible first | apply putqV | apply putqN); walk_at "put")
    | ((with_reducible apply putqB); (focus exact rfl); (focus exact rfl); walk_at "put"; walk_at "put")
    | ((with_reducible apply putq2); walk_at "put"; walk_at "put")
    | ((with_reducible apply parq); walk_at "put"; walk_at "put")
    | ((with_reducible apply wp_callR); (focus (repeat first | exact RefsR.nil | apply RefsR.v | apply RefsR.r)); (focus decide))
    | ((with_reducible apply wp_ar); (focus exact rfl))
    | ((with_reducible apply fin_rt); (focus exact rfl); (focus exact rfl))
    | ((with_reducible apply fin_nx); (focus exact rfl))
    | ((with_reducible apply wp_appendR); (focus exact rfl))
    | (with_reducible refine ⟨_, rfl, ?_⟩) | (with_reducible refine ⟨_, .inl rfl, ?_⟩) | (with_reducible refine ⟨_, .inr (.inl rfl), ?_⟩) | (with_reducible refine ⟨_, .inr (.inr rfl), ?_⟩)
    | (with_reducible apply callq0) | ((with_reducible apply frzB); (focus exact rfl); (focus exact rfl); walk_at "put")
    | ((with_reducible apply callq1); walk_at "set")
    | ((with_reducible apply callq2); walk_at "set"; walk_at "set")
    | ((with_reducible first | apply fgt_nx | apply fgt_bk | apply fgt_ct); walk_at "fgt")
    | ((with_reducible apply brT); (focus exact rfl)) | ((with_reducible apply brF); (focus exact rfl)))
local macro_rules
  | `(tactic| walk_at "r") => `(tactic| repeat first | walk_at "w" | walk_at "x")
local macro_rules
  | `(tactic| walk_at "ri") => `(tactic| repeat first | walk_at "w" | walk_at "x" | (with_reducible refine wp_if ?_))
local macro_rules
  | `(tactic| walk_at "app") => `(tactic| ((with_reducible apply appq); (focus exact rfl); (focus ((try simp only [List.length_map, List.length_nil, List.length_cons, List.length_append]); unfold line; omega)); walk_at "set"))
local macro_rules
  | `(tactic| walk_at "mul") => `(tactic| ((refine opq rfl rfl (ev_mul ?_) ?_); (focus (apply mulT <;> omega))))
local macro_rules
  | `(tactic| walk_at "rm") => `(tactic| repeat first | walk_at "w" | walk_at "x" | walk_at "mul")
local macro_rules
  | `(tactic| walk_at "len") => `(tactic| (refine And.intro ?_ ?_; (focus (simp [line]; done))))
local macro_rules
  | `(tactic| walk_at "rl") => `(tactic| repeat first | walk_at "w" | walk_at "x" | walk_at "len")
local macro_rules
  | `(tactic| walk_at "ril") => `(tactic| repeat first | walk_at "w" | walk_at "x" | walk_at "len" | (with_reducible refine wp_if ?_))
def Okq (m : Nat) (row : List (Int × Int)) : Prop := row.length ≤ 100 ∧ ∀ p ∈ row, Low p → Bt m p
theorem Okq.mono {m n : Nat} {row : List (Int × Int)} (h : Okq m row) (hmn : m ≤ n) : Okq n row := ⟨h.1, fun p hp l => (h.2 p hp l).mono hmn⟩
def AllOk (m : Nat) (L : List (List (Int × Int))) : Prop := ∀ y ∈ L, Okq m y
section
variable {Q : R → List Ob → Prop} {ρ : Env} {m : Nat} {ns ds : List Int}
def mT : Nat → Nat
  | 0 => 60
  | 1 => 161
  | _ => 323
end
end Py
namespace Py
open PySem D
local macro_rules
  | `(tactic| walk_at "w") => `(tactic| with_reducible first
    | refine seq_nx ?_ | refine seq_rt ?_ | refine seq_bk ?_ | refine seq_ct ?_ | refine wp_seq ?_ | refine wp_asg ?_ | refine wp_next ?_ | refine wp_ret ?_ | refine wp_retN ?_ | refine wp_brk ?_ | refine wp_cont ?_ | refine wp_expr ?_ | refine wp_op ?_ | refine wp_un ?_ | refine wp_c ?_
    | refine unB ?_ | refine wp_truB ?_ | refine wp_and ?_ | refine wp_or ?_ | refine wp_not ?_ | refine wp_ifE ?_ | refine wp_tup ?_ | refine wp_lst ?_ | refine wp_lcons ?_ | refine wp_lnil ?_ | refine frzV ?_ | refine frzN ?_ | refine wp_frz ?_ | refine wp_sl ?_ | refine wp_onone ?_ | refine wp_osome ?_
    | refine wp_anil ?_ | refine wp_av ?_ | refine wp_andV ?_ | refine wp_orV ?_ | refine wp_notV ?_ | refine wp_fgtR ?_ | refine turn_nx ?_ | refine turn_rt ?_ | refine turn_bk ?_ | refine turn_ct ?_ | refine fgt_rt ?_ | refine wp_par ?_ | refine wp_chain ?_ | refine wp_seqI ?_)
local macro_rules
  | `(tactic| walk_at "put") => `(tactic| focus ((repeat apply PutR.s); first | exact PutR.z rfl | exact PutR.z (by assumption)))
local macro_rules
  | `(tactic| walk_at "set") => `(tactic| focus ((repeat apply SetR.s); first | exact SetR.o | exact SetR.r))
local macro_rules
  | `(tactic| walk_at "fgt") => `(tactic| focus (repeat first | exact FgtsR.nil | exact FgtR.k | exact FgtR.z rfl | exact FgtR.z (by assumption) | apply FgtR.s | apply FgtsR.cons))
local macro_rules
  | `(tactic| walk_at "x") => `(tactic| first
    | ((with_reducible apply wp_varV); (focus exact rfl)) | ((with_reducible apply wp_varO); (focus exact rfl)) | ((with_reducible apply wp_varR); (focus exact rfl))
    | ((with_reducible apply opq); (focus exact rfl); (focus exact rfl); (focus (first | exact ev_eqI | exact ev_neI | exact ev_ltI | exact ev_leI | exact ev_gtI | exact ev_geI | exact ev_in2 | exact ev_in2n | exact ev_in4n | exact ev_isT | exact ev_isF | exact ev_isnT | exact ev_isnF | exact ev_strT | exact ev_strF n1 | exact ev_strF n2 | exact ev_strF n3 | exact ev_strF n4 | exact ev_strF n5 | exact ev_strF n6 | exact rfl)))
    | ((with_reducible apply unq); (focus exact rfl); (focus exact rfl))
    | ((with_reducible first | apply putqV | apply putqN); walk_at "put")
    | ((with_reducible apply putqB); (focus exact rfl); (focus exact rfl); walk_at "put"; walk_at "put")
    | ((with_reducible apply putq2); walk_at "put"; walk_at "put")
    | ((with_reducible apply parq); walk_at "put"; walk_at "put")
    | ((with_reducible apply wp_callR); (focus (repeat first | exact RefsR.nil | apply RefsR.v | apply RefsR.r)); (focus decide))
    | ((with_reducible apply wp_ar); (focus exact rfl))
    | ((with_reducible apply fin_rt); (focus exact rfl); (focus exact rfl))
    | ((with_reducible apply fin_nx); (focus exact rfl))
    | ((with_reducible apply wp_appendR); (focus exact rfl))
    | (with_reducible refine ⟨_, rfl, ?_⟩) | (with_reducible refine ⟨_, .inl rfl, ?_⟩) | (with_reducible refine ⟨_, .inr (.inl rfl), ?_⟩) | (with_reducible refine ⟨_, .inr (.inr rfl), ?_⟩)
    | (with_reducible apply callq0) | ((with_reducible apply frzB); (focus exact rfl); (focus exact rfl); walk_at "put")
    | ((with_reducible apply callq1); walk_at "set")
    | ((with_reducible apply callq2); walk_at "set"; walk_at "set")
    | ((with_reducible first | apply fgt_nx | apply fgt_bk | apply fgt_ct); walk_at "fgt")
    | ((with_reducible apply brT); (focus exact rfl)) | ((with_reducible apply brF); (focus exact rfl)))
local macro_rules
  | `(tactic| walk_at "r") => `(tactic| repeat first | walk_at "w" | walk_at "x")
local macro_rules
  | `(tactic| walk_at "ri") => `(tactic| repeat first | walk_at "w" | walk_at "x" | (with_reducible refine wp_if ?_))
local macro_rules
  | `(tactic| walk_at "app") => `(tactic| ((with_reducible apply appq); (focus exact rfl); (focus ((try simp only [List.length_map, List.length_nil, List.length_cons, List.length_append]); unfold line; omega)); walk_at "set"))
local macro_rules
  | `(tactic| walk_at "mul") => `(tactic| ((refine opq rfl rfl (ev_mul ?_) ?_); (focus (apply mulT <;> omega))))
local macro_rules
  | `(tactic| walk_at "rm") => `(tactic| repeat first | walk_at "w" | walk_at "x" | walk_at "mul")
local macro_rules
  | `(tactic| walk_at "len") => `(tactic| (refine And.intro ?_ ?_; (focus (simp [line]; done))))
local macro_rules
  | `(tactic| walk_at "rl") => `(tactic| repeat first | walk_at "w" | walk_at "x" | walk_at "len")
local macro_rules
  | `(tactic| walk_at "ril") => `(tactic| repeat first | walk_at "w" | walk_at "x" | walk_at "len" | (with_reducible refine wp_if ?_))
/-! fair bets have no sure bet -/
def wS (n : Nat) (ch : List (Int × Int)) (f : Nat → Rat) : Rat := ((List.range n).map fun j => qv (ch.getD j (0, 1)) * f j).sum
end Py
namespace Py
open PySem D
local macro_rules
  | `(tactic| walk_at "w") => `(tactic| with_reducible first
    | refine seq_nx ?_ | refine seq_rt ?_ | refine seq_bk ?_ | refine seq_ct ?_ | refine wp_seq ?_ | refine wp_asg ?_ | refine wp_next ?_ | refine wp_ret ?_ | refine wp_retN ?_ | refine wp_brk ?_ | refine wp_cont ?_ | refine wp_expr ?_ | refine wp_op ?_ | refine wp_un ?_ | refine wp_c ?_
    | refine unB ?_ | refine wp_truB ?_ | refine wp_and ?_ | refine wp_or ?_ | refine wp_not ?_ | refine wp_ifE ?_ | refine wp_tup ?_ | refine wp_lst ?_ | refine wp_lcons ?_ | refine wp_lnil ?_ | refine frzV ?_ | refine frzN ?_ | refine wp_frz ?_ | refine wp_sl ?_ | refine wp_onone ?_ | refine wp_osome ?_
    | refine wp_anil ?_ | refine wp_av ?_ | refine wp_andV ?_ | refine wp_orV ?_ | refine wp_notV ?_ | refine wp_fgtR ?_ | refine turn_nx ?_ | refine turn_rt ?_ | refine turn_bk ?_ | refine turn_ct ?_ | refine fgt_rt ?_ | refine wp_par ?_ | refine wp_chain ?_ | refine wp_seqI ?_)
local macro_rules
  | `(tactic| walk_at "put") => `(tactic| focus ((repeat apply PutR.s); first | exact PutR.z rfl | exact PutR.z (by assumption)))
local macro_rules
  | `(tactic| walk_at "set") => `(tactic| focus ((repeat apply SetR.s); first | exact SetR.o | exact SetR.r))
local macro_rules
  | `(tactic| walk_at "fgt") => `(tactic| focus (repeat first | exact FgtsR.nil | exact FgtR.k | exact FgtR.z rfl | exact FgtR.z (by assumption) | apply FgtR.s | apply FgtsR.cons))
local macro_rules
  | `(tactic| walk_at "x") => `(tactic| first
    | ((with_reducible apply wp_varV); (focus exact rfl)) | ((with_reducible apply wp_varO); (focus exact rfl)) | ((with_reducible apply wp_varR); (focus exact rfl))
    | ((with_reducible apply opq); (focus exact rfl); (focus exact rfl); (focus (first | exact ev_eqI | exact ev_neI | exact ev_ltI | exact ev_leI | exact ev_gtI | exact ev_geI | exact ev_in2 | exact ev_in2n | exact ev_in4n | exact ev_isT | exact ev_isF | exact ev_isnT | exact ev_isnF | exact ev_strT | exact ev_strF n1 | exact ev_strF n2 | exact ev_strF n3 | exact ev_strF n4 | exact ev_strF n5 | exact ev_strF n6 | exact rfl)))
    | ((with_reducible apply unq); (focus exact rfl); (focus exact rfl))
    | ((with_reducible first | apply putqV | apply putqN); walk_at "put")
    | ((with_reducible apply putqB); (focus exact rfl); (focus exact rfl); walk_at "put"; walk_at "put")
    | ((with_reducible apply putq2); walk_at "put"; walk_at "put")
    | ((with_reducible apply parq); walk_at "put"; walk_at "put")
    | ((with_reducible apply wp_callR); (focus (repeat first | exact RefsR.nil | apply RefsR.v | apply RefsR.r)); (focus decide))
    | ((with_reducible apply wp_ar); (focus exact rfl))
    | ((with_reducible apply fin_rt); (focus exact rfl); (focus exact rfl))
    | ((with_reducible apply fin_nx); (focus exact rfl))
    | ((with_reducible apply wp_appendR); (focus exact rfl))
    | (with_reducible refine ⟨_, rfl, ?_⟩) | (with_reducible refine ⟨_, .inl rfl, ?_⟩) | (with_reducible refine ⟨_, .inr (.inl rfl), ?_⟩) | (with_reducible refine ⟨_, .inr (.inr rfl), ?_⟩)
    | (with_reducible apply callq0) | ((with_reducible apply frzB); (focus exact rfl); (focus exact rfl); walk_at "put")
    | ((with_reducible apply callq1); walk_at "set")
    | ((with_reducible apply callq2); walk_at "set"; walk_at "set")
    | ((with_reducible first | apply fgt_nx | apply fgt_bk | apply fgt_ct); walk_at "fgt")
    | ((with_reducible apply brT); (focus exact rfl)) | ((with_reducible apply brF); (focus exact rfl)))
local macro_rules
  | `(tactic| walk_at "r") => `(tactic| repeat first | walk_at "w" | walk_at "x")
local macro_rules
  | `(tactic| walk_at "ri") => `(tactic| repeat first | walk_at "w" | walk_at "x" | (with_reducible refine wp_if ?_))
local macro_rules
  | `(tactic| walk_at "app") => `(tactic| ((with_reducible apply appq); (focus exact rfl); (focus ((try simp only [List.length_map, List.length_nil, List.length_cons, List.length_append]); unfold line; omega)); walk_at "set"))
local macro_rules
  | `(tactic| walk_at "mul") => `(tactic| ((refine opq rfl rfl (ev_mul ?_) ?_); (focus (apply mulT <;> omega))))
local macro_rules
  | `(tactic| walk_at "rm") => `(tactic| repeat first | walk_at "w" | walk_at "x" | walk_at "mul")
local macro_rules
  | `(tactic| walk_at "len") => `(tactic| (refine And.intro ?_ ?_; (focus (simp [line]; done))))
local macro_rules
  | `(tactic| walk_at "rl") => `(tactic| repeat first | walk_at "w" | walk_at "x" | walk_at "len")
local macro_rules
  | `(tactic| walk_at "ril") => `(tactic| repeat first | walk_at "w" | walk_at "x" | walk_at "len" | (with_reducible refine wp_if ?_))
def chB (n : Nat) (row : List (Int × Int)) : Bool := stakesB n row && decide (dotV row (List.replicate n (1, 1)) = (1, 1))
def fairB (n : Nat) (bets : List (List (Int × Int))) (row : List (Int × Int)) : Bool := chB n row && bets.all fun b => decide ((dotV row b).1 ≤ 0)
section
variable {Q : R → List Ob → Prop} {ρ : Env} {n m : Nat} {bets : List (List (Int × Int))} {row : List (Int × Int)}
end
end Py
namespace Py
open PySem D
local macro_rules
  | `(tactic| walk_at "w") => `(tactic| with_reducible first
    | refine seq_nx ?_ | refine seq_rt ?_ | refine seq_bk ?_ | refine seq_ct ?_ | refine wp_seq ?_ | refine wp_asg ?_ | refine wp_next ?_ | refine wp_ret ?_ | refine wp_retN ?_ | refine wp_brk ?_ | refine wp_cont ?_ | refine wp_expr ?_ | refine wp_op ?_ | refine wp_un ?_ | refine wp_c ?_
    | refine unB ?_ | refine wp_truB ?_ | refine wp_and ?_ | refine wp_or ?_ | refine wp_not ?_ | refine wp_ifE ?_ | refine wp_tup ?_ | refine wp_lst ?_ | refine wp_lcons ?_ | refine wp_lnil ?_ | refine frzV ?_ | refine frzN ?_ | refine wp_frz ?_ | refine wp_sl ?_ | refine wp_onone ?_ | refine wp_osome ?_
    | refine wp_anil ?_ | refine wp_av ?_ | refine wp_andV ?_ | refine wp_orV ?_ | refine wp_notV ?_ | refine wp_fgtR ?_ | refine turn_nx ?_ | refine turn_rt ?_ | refine turn_bk ?_ | refine turn_ct ?_ | refine fgt_rt ?_ | refine wp_par ?_ | refine wp_chain ?_ | refine wp_seqI ?_)
local macro_rules
  | `(tactic| walk_at "put") => `(tactic| focus ((repeat apply PutR.s); first | exact PutR.z rfl | exact PutR.z (by assumption)))
local macro_rules
  | `(tactic| walk_at "set") => `(tactic| focus ((repeat apply SetR.s); first | exact SetR.o | exact SetR.r))
local macro_rules
  | `(tactic| walk_at "fgt") => `(tactic| focus (repeat first | exact FgtsR.nil | exact FgtR.k | exact FgtR.z rfl | exact FgtR.z (by assumption) | apply FgtR.s | apply FgtsR.cons))
local macro_rules
  | `(tactic| walk_at "x") => `(tactic| first
    | ((with_reducible apply wp_varV); (focus exact rfl)) | ((with_reducible apply wp_varO); (focus exact rfl)) | ((with_reducible apply wp_varR); (focus exact rfl))
    | ((with_reducible apply opq); (focus exact rfl); (focus exact rfl); (focus (first | exact ev_eqI | exact ev_neI | exact ev_ltI | exact ev_leI | exact ev_gtI | exact ev_geI | exact ev_in2 | exact ev_in2n | exact ev_in4n | exact ev_isT | exact ev_isF | exact ev_isnT | exact ev_isnF | exact ev_strT | exact ev_strF n1 | exact ev_strF n2 | exact ev_strF n3 | exact ev_strF n4 | exact ev_strF n5 | exact ev_strF n6 | exact rfl)))
    | ((with_reducible apply unq); (focus exact rfl); (focus exact rfl))
    | ((with_reducible first | apply putqV | apply putqN); walk_at "put")
    | ((with_reducible apply putqB); (focus exact rfl); (focus exact rfl); walk_at "put"; walk_at "put")
    | ((with_reducible apply putq2); walk_at "put"; walk_at "put")
    | ((with_reducible apply parq); walk_at "put"; walk_at "put")
    | ((with_reducible apply wp_callR); (focus (repeat first | exact RefsR.nil | apply RefsR.v | apply RefsR.r)); (focus decide))
    | ((with_reducible apply wp_ar); (focus exact rfl))
    | ((with_reducible apply fin_rt); (focus exact rfl); (focus exact rfl))
    | ((with_reducible apply fin_nx); (focus exact rfl))
    | ((with_reducible apply wp_appendR); (focus exact rfl))
    | (with_reducible refine ⟨_, rfl, ?_⟩) | (with_reducible refine ⟨_, .inl rfl, ?_⟩) | (with_reducible refine ⟨_, .inr (.inl rfl), ?_⟩) | (with_reducible refine ⟨_, .inr (.inr rfl), ?_⟩)
    | (with_reducible apply callq0) | ((with_reducible apply frzB); (focus exact rfl); (focus exact rfl); walk_at "put")
    | ((with_reducible apply callq1); walk_at "set")
    | ((with_reducible apply callq2); walk_at "set"; walk_at "set")
    | ((with_reducible first | apply fgt_nx | apply fgt_bk | apply fgt_ct); walk_at "fgt")
    | ((with_reducible apply brT); (focus exact rfl)) | ((with_reducible apply brF); (focus exact rfl)))
local macro_rules
  | `(tactic| walk_at "r") => `(tactic| repeat first | walk_at "w" | walk_at "x")
local macro_rules
  | `(tactic| walk_at "ri") => `(tactic| repeat first | walk_at "w" | walk_at "x" | (with_reducible refine wp_if ?_))
local macro_rules
  | `(tactic| walk_at "app") => `(tactic| ((with_reducible apply appq); (focus exact rfl); (focus ((try simp only [List.length_map, List.length_nil, List.length_cons, List.length_append]); unfold line; omega)); walk_at "set"))
local macro_rules
  | `(tactic| walk_at "mul") => `(tactic| ((refine opq rfl rfl (ev_mul ?_) ?_); (focus (apply mulT <;> omega))))
local macro_rules
  | `(tactic| walk_at "rm") => `(tactic| repeat first | walk_at "w" | walk_at "x" | walk_at "mul")
local macro_rules
  | `(tactic| walk_at "len") => `(tactic| (refine And.intro ?_ ?_; (focus (simp [line]; done))))
local macro_rules
  | `(tactic| walk_at "rl") => `(tactic| repeat first | walk_at "w" | walk_at "x" | walk_at "len")
local macro_rules
  | `(tactic| walk_at "ril") => `(tactic| repeat first | walk_at "w" | walk_at "x" | walk_at "len" | (with_reducible refine wp_if ?_))
/-- a row of sum 1 with a common denominator -/
structure Chd (D N : Nat) (n : Nat) (ch : List (Int × Int)) : Prop where
  len : ch.length = n
  low : ∀ p ∈ ch, Low p
  den : ∃ d : Int, 0 < d ∧ d ≤ D ∧ ∀ p ∈ ch, ∃ x : Int, x.natAbs ≤ N ∧ qv p = (x : Rat) / d
  sum : (ch.map qv).sum = 1
theorem Chd.pos {D N n : Nat} {ch : List (Int × Int)} (h : Chd D N n ch) : ∀ p ∈ ch, 0 < p.2 := fun p hp => (h.low p hp).1
theorem Chd.bt {n : Nat} {ch : List (Int × Int)} (h : Chd 16383 32767 n ch) : ∀ p ∈ ch, Bt 15 p := fun p hp => by
  obtain ⟨d, h1, h2, h3⟩ := h.den
  obtain ⟨x, h4, h5⟩ := h3 p hp
  have := low_bd (h.low p hp) (by omega) h5
  exact ⟨h.pos p hp, by omega, by omega⟩
theorem Chd.mono {D N D' N' n : Nat} {ch : List (Int × Int)} (h : Chd D N n ch) (h1 : D ≤ D') (h2 : N ≤ N') : Chd D' N' n ch := by
  obtain ⟨d, a, b, c⟩ := h.den
  exact ⟨h.len, h.low, ⟨d, a, by omega, fun p hp => by
    obtain ⟨x, e1, e2⟩ := c p hp
    exact ⟨x, by omega, e2⟩⟩, h.sum⟩
section
end
section
variable {Q : R → List Ob → Prop} {ρ : Env} {n m : Nat} {row ch : List (Int × Int)} {ns ds : List Int}
end
end Py
namespace Py
open PySem D
local macro_rules
  | `(tactic| walk_at "w") => `(tactic| with_reducible first
    | refine seq_nx ?_ | refine seq_rt ?_ | refine seq_bk ?_ | refine seq_ct ?_ | refine wp_seq ?_ | refine wp_asg ?_ | refine wp_next ?_ | refine wp_ret ?_ | refine wp_retN ?_ | refine wp_brk ?_ | refine wp_cont ?_ | refine wp_expr ?_ | refine wp_op ?_ | refine wp_un ?_ | refine wp_c ?_
    | refine unB ?_ | refine wp_truB ?_ | refine wp_and ?_ | refine wp_or ?_ | refine wp_not ?_ | refine wp_ifE ?_ | refine wp_tup ?_ | refine wp_lst ?_ | refine wp_lcons ?_ | refine wp_lnil ?_ | refine frzV ?_ | refine frzN ?_ | refine wp_frz ?_ | refine wp_sl ?_ | refine wp_onone ?_ | refine wp_osome ?_
    | refine wp_anil ?_ | refine wp_av ?_ | refine wp_andV ?_ | refine wp_orV ?_ | refine wp_notV ?_ | refine wp_fgtR ?_ | refine turn_nx ?_ | refine turn_rt ?_ | refine turn_bk ?_ | refine turn_ct ?_ | refine fgt_rt ?_ | refine wp_par ?_ | refine wp_chain ?_ | refine wp_seqI ?_)
local macro_rules
  | `(tactic| walk_at "put") => `(tactic| focus ((repeat apply PutR.s); first | exact PutR.z rfl | exact PutR.z (by assumption)))
local macro_rules
  | `(tactic| walk_at "set") => `(tactic| focus ((repeat apply SetR.s); first | exact SetR.o | exact SetR.r))
local macro_rules
  | `(tactic| walk_at "fgt") => `(tactic| focus (repeat first | exact FgtsR.nil | exact FgtR.k | exact FgtR.z rfl | exact FgtR.z (by assumption) | apply FgtR.s | apply FgtsR.cons))
local macro_rules
  | `(tactic| walk_at "x") => `(tactic| first
    | ((with_reducible apply wp_varV); (focus exact rfl)) | ((with_reducible apply wp_varO); (focus exact rfl)) | ((with_reducible apply wp_varR); (focus exact rfl))
    | ((with_reducible apply opq); (focus exact rfl); (focus exact rfl); (focus (first | exact ev_eqI | exact ev_neI | exact ev_ltI | exact ev_leI | exact ev_gtI | exact ev_geI | exact ev_in2 | exact ev_in2n | exact ev_in4n | exact ev_isT | exact ev_isF | exact ev_isnT | exact ev_isnF | exact ev_strT | exact ev_strF n1 | exact ev_strF n2 | exact ev_strF n3 | exact ev_strF n4 | exact ev_strF n5 | exact ev_strF n6 | exact rfl)))
    | ((with_reducible apply unq); (focus exact rfl); (focus exact rfl))
    | ((with_reducible first | apply putqV | apply putqN); walk_at "put")
    | ((with_reducible apply putqB); (focus exact rfl); (focus exact rfl); walk_at "put"; walk_at "put")
    | ((with_reducible apply putq2); walk_at "put"; walk_at "put")
    | ((with_reducible apply parq); walk_at "put"; walk_at "put")
    | ((with_reducible apply wp_callR); (focus (repeat first | exact RefsR.nil | apply RefsR.v | apply RefsR.r)); (focus decide))
    | ((with_reducible apply wp_ar); (focus exact rfl))
    | ((with_reducible apply fin_rt); (focus exact rfl); (focus exact rfl))
    | ((with_reducible apply fin_nx); (focus exact rfl))
    | ((with_reducible apply wp_appendR); (focus exact rfl))
    | (with_reducible refine ⟨_, rfl, ?_⟩) | (with_reducible refine ⟨_, .inl rfl, ?_⟩) | (with_reducible refine ⟨_, .inr (.inl rfl), ?_⟩) | (with_reducible refine ⟨_, .inr (.inr rfl), ?_⟩)
    | (with_reducible apply callq0) | ((with_reducible apply frzB); (focus exact rfl); (focus exact rfl); walk_at "put")
    | ((with_reducible apply callq1); walk_at "set")
    | ((with_reducible apply callq2); walk_at "set"; walk_at "set")
    | ((with_reducible first | apply fgt_nx | apply fgt_bk | apply fgt_ct); walk_at "fgt")
    | ((with_reducible apply brT); (focus exact rfl)) | ((with_reducible apply brF); (focus exact rfl)))
local macro_rules
  | `(tactic| walk_at "r") => `(tactic| repeat first | walk_at "w" | walk_at "x")
local macro_rules
  | `(tactic| walk_at "ri") => `(tactic| repeat first | walk_at "w" | walk_at "x" | (with_reducible refine wp_if ?_))
local macro_rules
  | `(tactic| walk_at "app") => `(tactic| ((with_reducible apply appq); (focus exact rfl); (focus ((try simp only [List.length_map, List.length_nil, List.length_cons, List.length_append]); unfold line; omega)); walk_at "set"))
local macro_rules
  | `(tactic| walk_at "mul") => `(tactic| ((refine opq rfl rfl (ev_mul ?_) ?_); (focus (apply mulT <;> omega))))
local macro_rules
  | `(tactic| walk_at "rm") => `(tactic| repeat first | walk_at "w" | walk_at "x" | walk_at "mul")
local macro_rules
  | `(tactic| walk_at "len") => `(tactic| (refine And.intro ?_ ?_; (focus (simp [line]; done))))
local macro_rules
  | `(tactic| walk_at "rl") => `(tactic| repeat first | walk_at "w" | walk_at "x" | walk_at "len")
local macro_rules
  | `(tactic| walk_at "ril") => `(tactic| repeat first | walk_at "w" | walk_at "x" | walk_at "len" | (with_reducible refine wp_if ?_))
section
variable {Q : R → List Ob → Prop} {ρ : Env} {n : Nat} {bets : List (List (Int × Int))} {ch : List (Int × Int)} {ds : List Int}
end
end Py
/-! QS1: tables of the simplex and Bland's rule, plain Rat. -/
namespace Smp
def sm : Nat → (Nat → Rat) → Rat
  | 0, _ => 0
  | n + 1, g => sm n g + g n
theorem sm_add (f g : Nat → Rat) : ∀ n, sm n (fun k => f k + g k) = sm n f + sm n g
  | 0 => by unfold sm; grind
  | n + 1 => by unfold sm; rw [sm_add f g n]; grind
theorem sm_mul (c : Rat) (f : Nat → Rat) : ∀ n, sm n (fun k => c * f k) = c * sm n f
  | 0 => by unfold sm; grind
  | n + 1 => by unfold sm; rw [sm_mul c f n]; grind
theorem sm_congr {f g : Nat → Rat} : ∀ {n}, (∀ k, k < n → f k = g k) → sm n f = sm n g
  | 0, _ => rfl
  | n + 1, h => by unfold sm; rw [sm_congr fun k hk => h k (by omega), h n (by omega)]
theorem sm_zero {f : Nat → Rat} : ∀ {n}, (∀ k, k < n → f k = 0) → sm n f = 0
  | 0, _ => rfl
  | n + 1, h => by unfold sm; rw [sm_zero fun k hk => h k (by omega), h n (by omega)]; grind
theorem sm_one {f : Nat → Rat} {i : Nat} : ∀ {n}, i < n → (∀ k, k < n → k ≠ i → f k = 0) → sm n f = f i
  | 0, h, _ => by omega
  | n + 1, h, hz => by
    unfold sm
    by_cases c : i = n
    · subst c
      rw [sm_zero fun k hk => hz k (by omega) (by omega)]
      grind
    · rw [sm_one (i := i) (by omega) fun k hk => hz k (by omega), hz n (by omega) (by omega)]
      grind
/-- a row that the rows make -/
def Lin (r : Nat) (T : Nat → Nat → Rat) (f : Nat → Rat) : Prop := ∃ μ : Nat → Rat, ∀ j, f j = sm r fun k => μ k * T k j
theorem lin_row {r : Nat} {T : Nat → Nat → Rat} {i : Nat} (h : i < r) : Lin r T (T i) := ⟨fun k => if k = i then 1 else 0, fun j => by
  rw [sm_one h fun k _ hk => by dsimp only; rw [if_neg hk]; grind]
  dsimp only
  rw [if_pos rfl]
  grind⟩
theorem lin_add {r : Nat} {T : Nat → Nat → Rat} {f g : Nat → Rat} (hf : Lin r T f) (hg : Lin r T g) : Lin r T fun j => f j + g j := by
  obtain ⟨μ, h1⟩ := hf
  obtain ⟨ν, h2⟩ := hg
  refine ⟨fun k => μ k + ν k, fun j => ?_⟩
  dsimp only
  rw [h1, h2, ← sm_add]
  exact sm_congr fun k _ => by grind
theorem lin_mul {r : Nat} {T : Nat → Nat → Rat} {f : Nat → Rat} (c : Rat) (hf : Lin r T f) : Lin r T fun j => c * f j := by
  obtain ⟨μ, h1⟩ := hf
  refine ⟨fun k => c * μ k, fun j => ?_⟩
  dsimp only
  rw [h1, ← sm_mul]
  exact sm_congr fun k _ => by grind
theorem lin_congr {r : Nat} {T : Nat → Nat → Rat} {f g : Nat → Rat} (h : ∀ j, f j = g j) (hf : Lin r T f) : Lin r T g := by
  obtain ⟨μ, h1⟩ := hf
  exact ⟨μ, fun j => by rw [← h j, h1]⟩
theorem lin_zero {r : Nat} {T : Nat → Nat → Rat} : Lin r T fun _ => 0 := ⟨fun _ => 0, fun j => (sm_zero fun k _ => by grind).symm⟩
theorem lin_trans {r : Nat} {T S : Nat → Nat → Rat} (h : ∀ i, i < r → Lin r S (T i)) {f : Nat → Rat} (hf : Lin r T f) : Lin r S f := by
  obtain ⟨μ, h1⟩ := hf
  have key : ∀ n, n ≤ r → Lin r S fun j => sm n fun k => μ k * T k j := by
    intro n
    induction n with
    | zero => intro _; exact lin_zero
    | succ n ih =>
      intro hn
      exact lin_congr (fun j => rfl) (lin_add (ih (by omega)) (lin_mul (μ n) (h n (by omega))))
  exact lin_congr (fun j => (h1 j).symm) (key r (Nat.le_refl _))
def pivT (T : Nat → Nat → Rat) (p s : Nat) : Nat → Nat → Rat := fun i j => if i = p then T p j / T p s else T i j - T i s * (T p j / T p s)
def pivL (T : Nat → Nat → Rat) (L : Nat → Rat) (p s : Nat) : Nat → Rat := fun j => L j - L s * (T p j / T p s)
def pivB (B : Nat → Nat) (p s : Nat) : Nat → Nat := fun i => if i = p then s else B i
theorem piv_lin {r : Nat} {T : Nat → Nat → Rat} {p s : Nat} (hp : p < r) : ∀ i, i < r → Lin r T (pivT T p s i) := fun i hi => by
  by_cases c : i = p
  · exact lin_congr (fun j => by unfold pivT; rw [if_pos c]; grind) (lin_mul (1 / T p s) (lin_row hp))
  · exact lin_congr (fun j => by unfold pivT; rw [if_neg c]; grind) (lin_add (lin_row hi) (lin_mul (-(T i s / T p s)) (lin_row hp)))
theorem lin_piv {r : Nat} {T : Nat → Nat → Rat} {p s : Nat} (hp : p < r) (h0 : T p s ≠ 0) : ∀ i, i < r → Lin r (pivT T p s) (T i) := fun i hi => by
  by_cases c : i = p
  · subst c
    exact lin_congr (fun j => by unfold pivT; rw [if_pos rfl]; grind) (lin_mul (T i s) (lin_row (T := pivT T i s) hp))
  · exact lin_congr (fun j => by unfold pivT; rw [if_neg c, if_pos rfl]; grind) (lin_add (lin_row (T := pivT T p s) hi) (lin_mul (T i s) (lin_row (T := pivT T p s) hp)))
/-- the basis columns of a table -/
structure Bas (r N : Nat) (T : Nat → Nat → Rat) (L : Nat → Rat) (B : Nat → Nat) : Prop where
  col : ∀ i k, i < r → k < r → T i (B k) = if i = k then 1 else 0
  zero : ∀ k, k < r → L (B k) = 0
  lt : ∀ k, k < r → B k < N
theorem Bas.coef {r N : Nat} {T : Nat → Nat → Rat} {L : Nat → Rat} {B : Nat → Nat} (h : Bas r N T L B) {f : Nat → Rat} (hf : Lin r T f) (j : Nat) : f j = sm r fun k => f (B k) * T k j := by
  obtain ⟨μ, h1⟩ := hf
  rw [h1]
  refine sm_congr fun k hk => ?_
  rw [h1, sm_one hk fun i hi hne => by rw [h.col i k hi hk, if_neg hne]; grind, h.col k k hk hk, if_pos rfl]
  grind
theorem Bas.piv {r N : Nat} {T : Nat → Nat → Rat} {L : Nat → Rat} {B : Nat → Nat} (h : Bas r N T L B) {p s : Nat} (hp : p < r) (hs : s < N) (h0 : T p s ≠ 0) : Bas r N (pivT T p s) (pivL T L p s) (pivB B p s) := by
  refine ⟨fun i k hi hk => ?_, fun k hk => ?_, fun k hk => ?_⟩
  · unfold pivT pivB
    by_cases ck : k = p
    · subst ck
      rw [if_pos rfl]
      by_cases ci : i = k
      · rw [if_pos ci, if_pos ci]; grind
      · rw [if_neg ci, if_neg ci]; grind
    · have e1 : T p (B k) = 0 := by rw [h.col p k hp hk, if_neg (fun z => ck z.symm)]
      rw [if_neg ck, e1]
      by_cases ci : i = p
      · subst ci
        rw [if_pos rfl, if_neg (show ¬ i = k from fun z => ck z.symm)]; grind
      · rw [if_neg ci, h.col i k hi hk]; grind
  · unfold pivL pivB
    by_cases ck : k = p
    · rw [if_pos ck]; grind
    · have e1 : T p (B k) = 0 := by rw [h.col p k hp hk, if_neg (fun z => ck z.symm)]
      rw [if_neg ck, h.zero k hk, e1]; grind
  · unfold pivB
    split
    · exact hs
    · exact h.lt k hk
end Smp
/-! QS2: Bland's rule ends. -/
namespace Smp
/-- a run of steps by Bland's rule -/
structure Run (r N k : Nat) (T : Nat → Nat → Nat → Rat) (L : Nat → Nat → Rat) (B : Nat → Nat → Nat) (p s : Nat → Nat) : Prop where
  bas : Bas r N (T 0) (L 0) (B 0)
  pr : ∀ t, t < k → p t < r
  sN : ∀ t, t < k → s t < N
  nT : ∀ t, t < k → T (t + 1) = pivT (T t) (p t) (s t)
  nL : ∀ t, t < k → L (t + 1) = pivL (T t) (L t) (p t) (s t)
  nB : ∀ t, t < k → B (t + 1) = pivB (B t) (p t) (s t)
  neg : ∀ t, t < k → L t (s t) < 0
  first : ∀ t, t < k → ∀ j, j < s t → 0 ≤ L t j
  pos : ∀ t, t < k → 0 < T t (p t) (s t)
  feas : ∀ t, t ≤ k → ∀ i, i < r → 0 ≤ T t i N
  leave : ∀ t, t < k → ∀ i, i < r → 0 < T t i (s t) → T t (p t) N = 0 → T t i N = 0 → B t (p t) ≤ B t i
section
variable {r N k : Nat} {T : Nat → Nat → Nat → Rat} {L : Nat → Nat → Rat} {B : Nat → Nat → Nat} {p s : Nat → Nat}
theorem Run.basAt (h : Run r N k T L B p s) : ∀ t, t ≤ k → Bas r N (T t) (L t) (B t)
  | 0, _ => h.bas
  | t + 1, ht => by
    have := (h.basAt t (by omega)).piv (h.pr t (by omega)) (h.sN t (by omega)) (by have := h.pos t (by omega); grind)
    rw [h.nT t (by omega), h.nL t (by omega), h.nB t (by omega)]
    exact this
theorem Run.ahead (h : Run r N k T L B p s) (t : Nat) : ∀ d, t + d ≤ k → (∀ i, i < r → Lin r (T t) (T (t + d) i)) ∧ (∀ i, i < r → Lin r (T (t + d)) (T t i)) ∧ Lin r (T t) fun j => L (t + d) j - L t j
  | 0, _ => ⟨fun i hi => lin_row hi, fun i hi => lin_row hi, lin_congr (fun j => by show (0 : Rat) = L (t + 0) j - L t j; rw [Nat.add_zero]; grind) lin_zero⟩
  | d + 1, hd => by
    obtain ⟨h1, h2, h3⟩ := h.ahead t d (by omega)
    have hp := h.pr (t + d) (by omega)
    have h0 : T (t + d) (p (t + d)) (s (t + d)) ≠ 0 := by have := h.pos (t + d) (by omega); grind
    have e1 : T (t + (d + 1)) = pivT (T (t + d)) (p (t + d)) (s (t + d)) := h.nT (t + d) (by omega)
    have e2 : L (t + (d + 1)) = pivL (T (t + d)) (L (t + d)) (p (t + d)) (s (t + d)) := h.nL (t + d) (by omega)
    rw [e1, e2]
    refine ⟨fun i hi => lin_trans h1 (piv_lin hp i hi), fun i hi => lin_trans (lin_piv hp h0) (h2 i hi), ?_⟩
    have h4 := lin_mul (-(L (t + d) (s (t + d)) / T (t + d) (p (t + d)) (s (t + d)))) (h1 _ hp)
    exact lin_congr (fun j => by unfold pivL; grind) (lin_add h3 h4)
theorem Run.lin (h : Run r N k T L B p s) {t u : Nat} (ht : t ≤ k) (hu : u ≤ k) : Lin r (T t) fun j => L u j - L t j := by
  rcases Nat.le_total t u with c | c
  · obtain ⟨d, rfl⟩ := Nat.exists_eq_add_of_le c
    exact (h.ahead t d hu).2.2
  · obtain ⟨d, rfl⟩ := Nat.exists_eq_add_of_le c
    obtain ⟨h1, h2, h3⟩ := h.ahead u d ht
    exact lin_congr (fun j => by grind) (lin_mul (-1) (lin_trans h2 h3))
/-- a column of the basis -/
def In (r : Nat) (B : Nat → Nat) (v : Nat) : Prop := ∃ i, i < r ∧ B i = v
theorem Run.inj (h : Run r N k T L B p s) {t : Nat} (ht : t ≤ k) {i j : Nat} (hi : i < r) (hj : j < r) (e : B t i = B t j) : i = j := by
  have hb := h.basAt t ht
  have h1 := hb.col i i hi hi
  rw [if_pos rfl, e, hb.col i j hi hj] at h1
  by_cases c : i = j
  · exact c
  · rw [if_neg c] at h1; grind
theorem Run.same (h : Run r N k T L B p s) (hc : ∀ v, In r (B 0) v → In r (B k) v) : ∀ j, L k j = L 0 j := fun j => by
  have h1 := h.bas.coef (h.lin (Nat.zero_le k) (Nat.le_refl k)) j
  rw [sm_zero fun i hi => by
    obtain ⟨i', h2, h3⟩ := hc (B 0 i) ⟨i, hi, rfl⟩
    rw [h.bas.zero i hi, ← h3, (h.basAt k (Nat.le_refl k)).zero i' h2]
    grind] at h1
  grind
theorem Run.up (h : Run r N k T L B p s) {t : Nat} (ht : t < k) : L (t + 1) N = L t N + (-(L t (s t))) * (T t (p t) N / T t (p t) (s t)) := by
  rw [h.nL t ht]
  unfold pivL
  grind
theorem Run.rat_nn (h : Run r N k T L B p s) {t : Nat} (ht : t < k) : 0 ≤ T t (p t) N / T t (p t) (s t) := by
  have h1 := h.pos t ht
  have h2 := h.feas t (by omega) (p t) (h.pr t ht)
  rw [Rat.div_def]
  exact Rat.mul_nonneg h2 (Rat.le_of_lt (Rat.inv_pos.mpr h1))
theorem Run.mono (h : Run r N k T L B p s) (t : Nat) : ∀ d, t + d ≤ k → L t N ≤ L (t + d) N
  | 0, _ => Rat.le_refl
  | d + 1, hd => by
    have h1 := h.mono t d (by omega)
    have h2 := h.up (t := t + d) (by omega)
    have h3 := Rat.mul_nonneg (show 0 ≤ -(L (t + d) (s (t + d))) by have := h.neg (t + d) (by omega); grind) (h.rat_nn (t := t + d) (by omega))
    rw [show t + (d + 1) = t + d + 1 by omega, h2]
    grind
/-- the value of a column -/
def val (r N : Nat) (T : Nat → Nat → Rat) (B : Nat → Nat) (v : Nat) : Rat := sm r fun i => if B i = v then T i N else 0
theorem Run.enters (h : Run r N k T L B p s) (v t : Nat) : ∀ d, t + d ≤ k → ¬ In r (B t) v → In r (B (t + d)) v → ∃ e, e < k ∧ s e = v
  | 0, _, h1, h2 => absurd h2 h1
  | d + 1, hd, h1, h2 => by
    by_cases c : In r (B (t + d)) v
    · exact h.enters v t d (by omega) h1 c
    · obtain ⟨i, hi, e⟩ := h2
      rw [show t + (d + 1) = t + d + 1 by omega, h.nB (t + d) (by omega)] at e
      unfold pivB at e
      by_cases ci : i = p (t + d)
      · rw [if_pos ci] at e
        exact ⟨t + d, by omega, e⟩
      · rw [if_neg ci] at e
        exact absurd ⟨i, hi, e⟩ c
theorem Run.leaves (h : Run r N k T L B p s) (v t : Nat) : ∀ d, t + d ≤ k → In r (B t) v → ¬ In r (B (t + d)) v → ∃ e, e < k ∧ B e (p e) = v
  | 0, _, h1, h2 => absurd h1 h2
  | d + 1, hd, h1, h2 => by
    by_cases c : In r (B (t + d)) v
    · obtain ⟨i, hi, e⟩ := c
      by_cases ci : i = p (t + d)
      · exact ⟨t + d, by omega, by rw [← ci]; exact e⟩
      · refine absurd ⟨i, hi, ?_⟩ h2
        rw [show t + (d + 1) = t + d + 1 by omega, h.nB (t + d) (by omega)]
        unfold pivB
        rw [if_neg ci]
        exact e
    · exact h.leaves v t d (by omega) h1 c
end
end Smp
/-! QS3: what the last table shows. -/
namespace Smp
theorem feas_piv {r N : Nat} {T : Nat → Nat → Rat} {p s : Nat} (hp : p < r) (h0 : 0 < T p s) (hf : ∀ i, i < r → 0 ≤ T i N) (hr : ∀ i, i < r → 0 < T i s → T p N / T p s ≤ T i N / T i s) : ∀ i, i < r → 0 ≤ pivT T p s i N := fun i hi => by
  have q : 0 ≤ T p N / T p s := by
    rw [Rat.div_def]
    exact Rat.mul_nonneg (hf p hp) (Rat.le_of_lt (Rat.inv_pos.mpr h0))
  unfold pivT
  by_cases c : i = p
  · rw [if_pos c]; exact q
  · rw [if_neg c]
    by_cases c2 : 0 < T i s
    · have h1 := hr i hi c2
      have h2 := Rat.mul_le_mul_of_nonneg_left h1 (Rat.le_of_lt c2)
      have h3 : T i s * (T i N / T i s) = T i N := by
        have : T i s ≠ 0 := by grind
        grind
      grind
    · have h2 := Rat.mul_nonneg (show 0 ≤ -(T i s) by grind) q
      have h3 := hf i hi
      grind
theorem sm_swap (f : Nat → Nat → Rat) (m : Nat) : ∀ n, sm n (fun i => sm m fun j => f i j) = sm m fun j => sm n fun i => f i j
  | 0 => by
    show (0 : Rat) = _
    exact (sm_zero fun _ _ => rfl).symm
  | n + 1 => by
    show sm n (fun i => sm m fun j => f i j) + (sm m fun j => f n j) = _
    rw [sm_swap f m n, ← sm_add]
    exact sm_congr fun j _ => rfl
/-- the values of the columns -/
def xs (r N : Nat) (T : Nat → Nat → Rat) (B : Nat → Nat) (j : Nat) : Rat := val r N T B j
theorem Bas.dot {r N : Nat} {T : Nat → Nat → Rat} {L : Nat → Rat} {B : Nat → Nat} (h : Bas r N T L B) {f : Nat → Rat} : sm N (fun j => f j * xs r N T B j) = sm r fun k => f (B k) * T k N := by
  have e : sm N (fun j => f j * xs r N T B j) = sm N fun j => sm r fun i => f j * (if B i = j then T i N else 0) := sm_congr fun j _ => by
    unfold xs val
    rw [← sm_mul]
  rw [e, sm_swap (fun j i => f j * (if B i = j then T i N else 0)) r N]
  refine sm_congr fun i hi => ?_
  rw [sm_one (i := B i) (h.lt i hi) fun j _ hne => by rw [if_neg fun z => hne z.symm]; grind, if_pos rfl]
theorem Bas.row {r N : Nat} {T : Nat → Nat → Rat} {L : Nat → Rat} {B : Nat → Nat} (h : Bas r N T L B) {f : Nat → Rat} (hf : Lin r T f) : sm N (fun j => f j * xs r N T B j) = f N := by
  rw [h.dot, ← h.coef hf N]
theorem Bas.line {r N : Nat} {T : Nat → Nat → Rat} {L : Nat → Rat} {B : Nat → Nat} (h : Bas r N T L B) : sm N (fun j => L j * xs r N T B j) = 0 := by
  rw [h.dot]
  exact sm_zero fun k hk => by rw [h.zero k hk]; grind
/-- the first table -/
structure First (m r : Nat) (A : Nat → Nat → Rat) (b w : Nat → Rat) (T0 : Nat → Nat → Rat) (L0 : Nat → Rat) : Prop where
  a : ∀ i j, i < r → j < m → T0 i j = A i j
  fill : ∀ i k, i < r → k < r → T0 i (m + k) = if i = k then 1 else 0
  b : ∀ i, i < r → T0 i (m + r) = b i
  w : ∀ j, j < m → L0 j = - w j
  z : ∀ k, k < r → L0 (m + k) = 0
  zN : L0 (m + r) = 0
theorem First.bas {m r : Nat} {A : Nat → Nat → Rat} {b w : Nat → Rat} {T0 : Nat → Nat → Rat} {L0 : Nat → Rat} (h : First m r A b w T0 L0) : Bas r (m + r) T0 L0 fun i => m + i :=
  ⟨fun i k hi hk => h.fill i k hi hk, fun k hk => h.z k hk, fun k hk => by omega⟩
end Smp
/-! QS4: a bounded sum has a row that leaves. -/
namespace Smp
/-- the way along a column -/
def way (r : Nat) (T : Nat → Nat → Rat) (B : Nat → Nat) (s j : Nat) : Rat := (if j = s then 1 else 0) + sm r fun i => if B i = j then -(T i s) else 0
end Smp
/-! QS5: a run is not longer than there are bases. -/
namespace Smp
section
variable {r N k : Nat} {T : Nat → Nat → Nat → Rat} {L : Nat → Nat → Rat} {B : Nat → Nat → Nat} {p s : Nat → Nat}
end
/-- all rows of bits -/
def allB : Nat → List (List Bool)
  | 0 => [[]]
  | n + 1 => (allB n).map (true :: ·) ++ (allB n).map (false :: ·)
noncomputable def bits (r N : Nat) (B : Nat → Nat) : List Bool := by
  classical
  exact (List.range N).map fun j => decide (In r B j)
end Smp
/-! QS6: how many bits a table has. -/
namespace Smp
/-- a row with a common denominator, few bits -/
def Rep (N b : Nat) (f : Nat → Rat) : Prop := ∃ d : Int, d ≠ 0 ∧ d.natAbs < 2 ^ b ∧ ∀ j, j ≤ N → ∃ n : Int, n.natAbs < 2 ^ b ∧ f j = (n : Rat) / (d : Rat)
/-- a table that comes of the first one -/
structure Eqv (m r : Nat) (T0 : Nat → Nat → Rat) (L0 : Nat → Rat) (T : Nat → Nat → Rat) (L : Nat → Rat) (B : Nat → Nat) : Prop where
  bas : Bas r (m + r) T L B
  fro : ∀ i, i < r → Lin r T (T0 i)
  to : ∀ i, i < r → Lin r T0 (T i)
  lin : Lin r T fun j => L j - L0 j
theorem Eqv.piv {m r : Nat} {T0 : Nat → Nat → Rat} {L0 : Nat → Rat} {T : Nat → Nat → Rat} {L : Nat → Rat} {B : Nat → Nat} (h : Eqv m r T0 L0 T L B) {p s : Nat} (hp : p < r) (hs : s < m + r) (h0 : T p s ≠ 0) : Eqv m r T0 L0 (pivT T p s) (pivL T L p s) (pivB B p s) := by
  refine ⟨h.bas.piv hp hs h0, fun i hi => lin_trans (lin_piv hp h0) (h.fro i hi), fun i hi => lin_trans h.to (piv_lin hp i hi), ?_⟩
  refine lin_trans (lin_piv hp h0) ?_
  exact lin_congr (fun j => by unfold pivL; grind) (lin_add h.lin (lin_mul (-(L s / T p s)) (lin_row hp)))
def cn (m : Nat) (B : Nat → Nat) : Nat → Nat
  | 0 => 0
  | n + 1 => cn m B n + if B n < m then 1 else 0
def bq (b : Nat) : Nat → Nat
  | 0 => b
  | q + 1 => 2 * bq b q + 1
end Smp
/-! QS7: one denominator for all amounts and one for all prices. -/
namespace Smp
/-- times a factor it is an integer of few bits -/
def Itg (b : Nat) (x : Rat) : Prop := ∃ n : Int, n.natAbs < 2 ^ b ∧ x = (n : Rat)
def fac (m : Nat) (d : Nat → Int) (B : Nat → Nat) (i : Nat) : Rat := if B i < m then 1 else ((d (B i - m) : Int) : Rat)
end Smp
/-! QS8: the state of the loop and its history. -/
namespace Smp
def upd {α : Type} (f : Nat → α) (k : Nat) (x : α) : Nat → α := fun t => if t = k then x else f t
theorem upd_self {α : Type} (f : Nat → α) (k : Nat) (x : α) : upd f k x k = x := if_pos rfl
theorem upd_ne {α : Type} (f : Nat → α) (k : Nat) (x : α) {t : Nat} (h : t ≠ k) : upd f k x t = f t := if_neg h
/-- a state that a run of k steps led to -/
def At (m r : Nat) (T0 : Nat → Nat → Rat) (L0 : Nat → Rat) (k : Nat) (T : Nat → Nat → Rat) (L : Nat → Rat) (B : Nat → Nat) : Prop :=
  ∃ (Ts : Nat → Nat → Nat → Rat) (Ls : Nat → Nat → Rat) (Bs : Nat → Nat → Nat) (p s : Nat → Nat), Run r (m + r) k Ts Ls Bs p s ∧ Ts 0 = T0 ∧ Ls 0 = L0 ∧ Ts k = T ∧ Ls k = L ∧ Bs k = B
section
variable {m r k : Nat} {A : Nat → Nat → Rat} {bb w : Nat → Rat} {T0 T : Nat → Nat → Rat} {L0 L : Nat → Rat} {B : Nat → Nat}
theorem At.start (h0 : First m r A bb w T0 L0) (hb : ∀ i, i < r → 0 ≤ bb i) : At m r T0 L0 0 T0 L0 fun i => m + i :=
  ⟨fun _ => T0, fun _ => L0, fun _ i => m + i, fun _ => 0, fun _ => 0, {
    bas := h0.bas
    pr := fun t ht => by omega
    sN := fun t ht => by omega
    nT := fun t ht => by omega
    nL := fun t ht => by omega
    nB := fun t ht => by omega
    neg := fun t ht => by omega
    first := fun t ht => by omega
    pos := fun t ht => by omega
    feas := fun t ht i hi => by rw [h0.b i hi]; exact hb i hi
    leave := fun t ht => by omega }, rfl, rfl, rfl, rfl, rfl⟩
theorem At.feas (h : At m r T0 L0 k T L B) : ∀ i, i < r → 0 ≤ T i (m + r) := by
  obtain ⟨Ts, Ls, Bs, p, s, hr, _, _, rfl, _⟩ := h
  exact fun i hi => hr.feas k (Nat.le_refl k) i hi
theorem At.eqv (h : At m r T0 L0 k T L B) : Eqv m r T0 L0 T L B := by
  obtain ⟨Ts, Ls, Bs, p, s, hr, rfl, rfl, rfl, rfl, rfl⟩ := h
  have h1 := hr.basAt k (Nat.le_refl k)
  obtain ⟨h2, h3, h4⟩ := hr.ahead 0 k (by omega)
  rw [Nat.zero_add] at h2 h3 h4
  exact ⟨h1, h3, h2, lin_trans h3 h4⟩
theorem At.step (h : At m r T0 L0 k T L B) {p s : Nat} (hs : s < m + r) (hn : L s < 0) (hf : ∀ j, j < s → 0 ≤ L j) (hp : p < r) (h0 : 0 < T p s)
    (hr : ∀ i, i < r → 0 < T i s → T p (m + r) / T p s ≤ T i (m + r) / T i s) (ht : ∀ i, i < r → 0 < T i s → T i (m + r) / T i s = T p (m + r) / T p s → B p ≤ B i) :
    At m r T0 L0 (k + 1) (pivT T p s) (pivL T L p s) (pivB B p s) := by
  have hfe := feas_piv (N := m + r) hp h0 h.feas hr
  obtain ⟨Ts, Ls, Bs, ps, ss, hR, e1, e2, rfl, rfl, rfl⟩ := h
  have up : ∀ {α : Type} (f : Nat → α) (x : α) (t : Nat), t ≤ k → upd f (k + 1) x t = f t := fun f x t ht => upd_ne f _ x (by omega)
  have uk : ∀ {α : Type} (f : Nat → α) (x : α), upd f (k + 1) x (k + 1) = x := fun f x => upd_self f _ x
  have vp : ∀ {α : Type} (f : Nat → α) (x : α) (t : Nat), t < k → upd f k x t = f t := fun f x t ht => upd_ne f _ x (by omega)
  have vk : ∀ {α : Type} (f : Nat → α) (x : α), upd f k x k = x := fun f x => upd_self f _ x
  refine ⟨upd Ts (k + 1) (pivT (Ts k) p s), upd Ls (k + 1) (pivL (Ts k) (Ls k) p s), upd Bs (k + 1) (pivB (Bs k) p s),
    upd ps k p, upd ss k s, ?_, ?_, ?_, ?_, ?_, ?_⟩
  · constructor
    · rw [up _ _ 0 (by omega), up _ _ 0 (by omega), up _ _ 0 (by omega)]; exact hR.bas
    · intro t ht'
      by_cases c : t = k
      · subst c; rw [vk]; exact hp
      · rw [vp _ _ t (by omega)]; exact hR.pr t (by omega)
    · intro t ht'
      by_cases c : t = k
      · subst c; rw [vk]; exact hs
      · rw [vp _ _ t (by omega)]; exact hR.sN t (by omega)
    · intro t ht'
      by_cases c : t = k
      · subst c; rw [uk, up _ _ t (by omega), vk, vk]
      · rw [up _ _ (t + 1) (by omega), up _ _ t (by omega), vp _ _ t (by omega), vp _ _ t (by omega)]; exact hR.nT t (by omega)
    · intro t ht'
      by_cases c : t = k
      · subst c; rw [uk, up _ _ t (by omega), up _ _ t (by omega), vk, vk]
      · rw [up _ _ (t + 1) (by omega), up _ _ t (by omega), up _ _ t (by omega), vp _ _ t (by omega), vp _ _ t (by omega)]; exact hR.nL t (by omega)
    · intro t ht'
      by_cases c : t = k
      · subst c; rw [uk, up _ _ t (by omega), vk, vk]
      · rw [up _ _ (t + 1) (by omega), up _ _ t (by omega), vp _ _ t (by omega), vp _ _ t (by omega)]; exact hR.nB t (by omega)
    · intro t ht'
      by_cases c : t = k
      · subst c; rw [up _ _ t (by omega), vk]; exact hn
      · rw [up _ _ t (by omega), vp _ _ t (by omega)]; exact hR.neg t (by omega)
    · intro t ht'
      by_cases c : t = k
      · subst c; rw [up _ _ t (by omega), vk]; exact hf
      · rw [up _ _ t (by omega), vp _ _ t (by omega)]; exact hR.first t (by omega)
    · intro t ht'
      by_cases c : t = k
      · subst c; rw [up _ _ t (by omega), vk, vk]; exact h0
      · rw [up _ _ t (by omega), vp _ _ t (by omega), vp _ _ t (by omega)]; exact hR.pos t (by omega)
    · intro t ht'
      by_cases c : t = k + 1
      · subst c; rw [uk]; exact hfe
      · rw [up _ _ t (by omega)]; exact hR.feas t (by omega)
    · intro t ht'
      by_cases c : t = k
      · subst c
        rw [up _ _ t (by omega), up _ _ t (by omega), vk, vk]
        intro i hi hpos z1 z2
        refine ht i hi hpos ?_
        rw [z1, z2]
        grind
      · rw [up _ _ t (by omega), up _ _ t (by omega), vp _ _ t (by omega), vp _ _ t (by omega)]; exact hR.leave t (by omega)
  · rw [up _ _ 0 (by omega)]; exact e1
  · rw [up _ _ 0 (by omega)]; exact e2
  · exact uk _ _
  · exact uk _ _
  · exact uk _ _
/-- the column that enters -/
def Ent (N : Nat) (L : Nat → Rat) (s : Nat) : Prop := s < N ∧ L s < 0 ∧ ∀ j, j < s → 0 ≤ L j
/-- the row that leaves, of the first n -/
def Lea (N : Nat) (T : Nat → Nat → Rat) (B : Nat → Nat) (s n p : Nat) : Prop := p < n ∧ 0 < T p s ∧ (∀ i, i < n → 0 < T i s → T p N / T p s ≤ T i N / T i s) ∧ ∀ i, i < n → 0 < T i s → T i N / T i s = T p N / T p s → B p ≤ B i
/-- what is asked of the numbers -/
structure Num (m r b Q c : Nat) (T0 : Nat → Nat → Rat) (L0 : Nat → Rat) (d : Nat → Int) (dL : Int) : Prop where
  b1 : 1 ≤ b
  d0 : ∀ i, i < r → d i ≠ 0
  dB : ∀ i, i < r → (d i).natAbs < 2 ^ b
  T : ∀ i, i < r → ∀ j, j ≤ m + r → Itg b (T0 i j * (d i : Rat))
  dL0 : dL ≠ 0
  dLB : dL.natAbs < 2 ^ b
  L : ∀ j, j ≤ m + r → Itg b (L0 j * (dL : Rat))
  q : m ≤ Q ∨ r ≤ Q
  c : bq b Q + b ≤ c
/-- few bits above and below -/
def Rb (c : Nat) (x : Rat) : Prop := ∃ (n d : Int), d ≠ 0 ∧ n.natAbs < 2 ^ c ∧ d.natAbs < 2 ^ c ∧ x * (d : Rat) = (n : Rat)
end
end Smp
namespace Py
open PySem D
local macro_rules
  | `(tactic| walk_at "w") => `(tactic| with_reducible first
    | refine seq_nx ?_ | refine seq_rt ?_ | refine seq_bk ?_ | refine seq_ct ?_ | refine wp_seq ?_ | refine wp_asg ?_ | refine wp_next ?_ | refine wp_ret ?_ | refine wp_retN ?_ | refine wp_brk ?_ | refine wp_cont ?_ | refine wp_expr ?_ | refine wp_op ?_ | refine wp_un ?_ | refine wp_c ?_
    | refine unB ?_ | refine wp_truB ?_ | refine wp_and ?_ | refine wp_or ?_ | refine wp_not ?_ | refine wp_ifE ?_ | refine wp_tup ?_ | refine wp_lst ?_ | refine wp_lcons ?_ | refine wp_lnil ?_ | refine frzV ?_ | refine frzN ?_ | refine wp_frz ?_ | refine wp_sl ?_ | refine wp_onone ?_ | refine wp_osome ?_
    | refine wp_anil ?_ | refine wp_av ?_ | refine wp_andV ?_ | refine wp_orV ?_ | refine wp_notV ?_ | refine wp_fgtR ?_ | refine turn_nx ?_ | refine turn_rt ?_ | refine turn_bk ?_ | refine turn_ct ?_ | refine fgt_rt ?_ | refine wp_par ?_ | refine wp_chain ?_ | refine wp_seqI ?_)
local macro_rules
  | `(tactic| walk_at "put") => `(tactic| focus ((repeat apply PutR.s); first | exact PutR.z rfl | exact PutR.z (by assumption)))
local macro_rules
  | `(tactic| walk_at "set") => `(tactic| focus ((repeat apply SetR.s); first | exact SetR.o | exact SetR.r))
local macro_rules
  | `(tactic| walk_at "fgt") => `(tactic| focus (repeat first | exact FgtsR.nil | exact FgtR.k | exact FgtR.z rfl | exact FgtR.z (by assumption) | apply FgtR.s | apply FgtsR.cons))
local macro_rules
  | `(tactic| walk_at "x") => `(tactic| first
    | ((with_reducible apply wp_varV); (focus exact rfl)) | ((with_reducible apply wp_varO); (focus exact rfl)) | ((with_reducible apply wp_varR); (focus exact rfl))
    | ((with_reducible apply opq); (focus exact rfl); (focus exact rfl); (focus (first | exact ev_eqI | exact ev_neI | exact ev_ltI | exact ev_leI | exact ev_gtI | exact ev_geI | exact ev_in2 | exact ev_in2n | exact ev_in4n | exact ev_isT | exact ev_isF | exact ev_isnT | exact ev_isnF | exact ev_strT | exact ev_strF n1 | exact ev_strF n2 | exact ev_strF n3 | exact ev_strF n4 | exact ev_strF n5 | exact ev_strF n6 | exact rfl)))
    | ((with_reducible apply unq); (focus exact rfl); (focus exact rfl))
    | ((with_reducible first | apply putqV | apply putqN); walk_at "put")
    | ((with_reducible apply putqB); (focus exact rfl); (focus exact rfl); walk_at "put"; walk_at "put")
    | ((with_reducible apply putq2); walk_at "put"; walk_at "put")
    | ((with_reducible apply parq); walk_at "put"; walk_at "put")
    | ((with_reducible apply wp_callR); (focus (repeat first | exact RefsR.nil | apply RefsR.v | apply RefsR.r)); (focus decide))
    | ((with_reducible apply wp_ar); (focus exact rfl))
    | ((with_reducible apply fin_rt); (focus exact rfl); (focus exact rfl))
    | ((with_reducible apply fin_nx); (focus exact rfl))
    | ((with_reducible apply wp_appendR); (focus exact rfl))
    | (with_reducible refine ⟨_, rfl, ?_⟩) | (with_reducible refine ⟨_, .inl rfl, ?_⟩) | (with_reducible refine ⟨_, .inr (.inl rfl), ?_⟩) | (with_reducible refine ⟨_, .inr (.inr rfl), ?_⟩)
    | (with_reducible apply callq0) | ((with_reducible apply frzB); (focus exact rfl); (focus exact rfl); walk_at "put")
    | ((with_reducible apply callq1); walk_at "set")
    | ((with_reducible apply callq2); walk_at "set"; walk_at "set")
    | ((with_reducible first | apply fgt_nx | apply fgt_bk | apply fgt_ct); walk_at "fgt")
    | ((with_reducible apply brT); (focus exact rfl)) | ((with_reducible apply brF); (focus exact rfl)))
local macro_rules
  | `(tactic| walk_at "r") => `(tactic| repeat first | walk_at "w" | walk_at "x")
local macro_rules
  | `(tactic| walk_at "ri") => `(tactic| repeat first | walk_at "w" | walk_at "x" | (with_reducible refine wp_if ?_))
local macro_rules
  | `(tactic| walk_at "app") => `(tactic| ((with_reducible apply appq); (focus exact rfl); (focus ((try simp only [List.length_map, List.length_nil, List.length_cons, List.length_append]); unfold line; omega)); walk_at "set"))
local macro_rules
  | `(tactic| walk_at "mul") => `(tactic| ((refine opq rfl rfl (ev_mul ?_) ?_); (focus (apply mulT <;> omega))))
local macro_rules
  | `(tactic| walk_at "rm") => `(tactic| repeat first | walk_at "w" | walk_at "x" | walk_at "mul")
local macro_rules
  | `(tactic| walk_at "len") => `(tactic| (refine And.intro ?_ ?_; (focus (simp [line]; done))))
local macro_rules
  | `(tactic| walk_at "rl") => `(tactic| repeat first | walk_at "w" | walk_at "x" | walk_at "len")
local macro_rules
  | `(tactic| walk_at "ril") => `(tactic| repeat first | walk_at "w" | walk_at "x" | walk_at "len" | (with_reducible refine wp_if ?_))
/-! QUa: numbers as Rat: arithmetic of the program by rational numbers. -/
/-- a rational number as a pair -/
def rq (x : Rat) : PV := fr (x.num, (x.den : Int))
theorem low_num (x : Rat) : Low (x.num, (x.den : Int)) := ⟨by show (0 : Int) < x.den; have := x.den_pos; omega, by
  show Int.gcd x.num x.den = 1
  have := x.reduced
  unfold Nat.Coprime at this
  rw [Int.gcd]
  simpa using this⟩
/-- bits above and below -/
def Bq (m : Nat) (x : Rat) : Prop := x.num.natAbs < 2 ^ m ∧ x.den < 2 ^ m
theorem Bq.mono {m n : Nat} {x : Rat} (h : Bq m x) (hmn : m ≤ n) : Bq n x := by
  have hp := Nat.pow_le_pow_right (n := 2) (by decide) hmn
  exact ⟨by have := h.1; omega, by have := h.2; omega⟩
theorem Bq.bt {m : Nat} {x : Rat} (h : Bq m x) : Bt m (x.num, (x.den : Int)) := ⟨(low_num x).1, h.1, by simpa using h.2⟩
section
variable {x y : Rat} {m n : Nat}
variable {Q : R → List Ob → Prop}
end
theorem ev_eqQ {x y : Rat} : fEq (.pv (rq x)) (.pv (rq y)) = some (.val (.bool (decide (x = y)))) := by
  have e : fEq (.pv (rq x)) (.pv (rq y)) = some (.val (.bool (false ^^ PyData.eqv (rq x) (rq y)))) := rfl
  rw [e, Bool.false_xor]
  unfold rq
  rw [eqvFr]
  congr 3
  refine decide_eq_decide.mpr ⟨fun h => ?_, fun h => by rw [h]⟩
  have h1 := congrArg Prod.fst h
  have h2 := congrArg Prod.snd h
  dsimp only at h1 h2
  exact Rat.ext h1 (by omega)
theorem ev_eqQ0 {x : Rat} : fEq (.pv (rq x)) (.pv (.tuple [.int 0, .int 1])) = some (.val (.bool (decide (x = 0)))) := ev_eqQ (y := 0)
theorem ev_eqQ1 {x : Rat} : fEq (.pv (rq x)) (.pv (.tuple [.int 1, .int 1])) = some (.val (.bool (decide (x = 1)))) := ev_eqQ (y := 1)
/-! rows -/
def rowP (n : Nat) (f : Nat → Rat) : List PV := (List.range n).map fun j => rq (f j)
/-! comprehensions that leave the names alone -/
theorem set_set {ρ : Env} {i : Nat} {a b : Option Sl} : (List.set ρ i a).set i b = List.set ρ i b := by simp
theorem wp_lcK {i : Nat} {it : MI} {e : M} {ρ ρ1 : Env} {Q : R → Env → Prop} (xs : List PV) (hv : Nat → PV) (hi : i < ρ1.length) (hl : xs.length ≤ line)
    (h : Wp it ρ fun ys ρ' => ys = xs ∧ ρ' = ρ1)
    (step : ∀ k (hk : k < xs.length), Wp e (List.set ρ1 i (some (.val xs[k]))) fun r ρ3 => FrzQ r ρ3 fun v ρ4 => v = hv k ∧ ρ4 = List.set ρ1 i (some (.val xs[k])))
    (q : Q (.new (.lst ((List.range xs.length).map hv))) ρ1) : Wp (mLc it (gName i) [i] tYes e) ρ Q := by
  refine wp_lc (fun x : PV => x) (fun done acc ρ' => acc = (List.range done.length).map hv ∧ ∃ u, ρ' = List.set ρ1 i u) ?_
  refine h.mono fun ys ρ' ⟨e1, e2⟩ => ?_
  subst e1 e2
  refine ⟨ys, by simp, hl, ⟨rfl, get ρ' i, ?_⟩, ?_, ?_⟩
  · unfold get
    rw [List.getElem?_eq_getElem hi]
    simp
  · rintro done y rest acc _ e3 ⟨rfl, u, rfl⟩
    have hk : done.length < ys.length := by rw [e3]; simp
    have hy : ys[done.length] = y := by simp [e3]
    have hs := step done.length hk
    rw [hy] at hs
    refine lcqY (ρ0 := List.set ρ' i none) (by show (List.set ρ' i u).set i none = _; exact set_set) ?_
    have hg : get (List.set ρ' i none) i = none := by
      unfold get
      rw [List.getElem?_set_self hi]
      rfl
    refine ⟨List.set ρ' i (some (.val y)), ?_, hs.mono fun r ρ3 ⟨v, ρ4, e4, e5, e6⟩ => ⟨_, _, e4, ?_, some (.val y), e6⟩⟩
    · show put i (some (.val y)) (List.set ρ' i none) = _
      unfold put
      rw [hg]
      show some ((List.set ρ' i none).set i (some (.val y))) = _
      rw [set_set]
    · rw [List.length_append, List.length_singleton, List.range_succ, List.map_append, e5]
      rfl
  · rintro acc _ ⟨rfl, u, rfl⟩
    have eb : back ρ' [i] (List.set ρ' i u) = ρ' := by
      show (List.set ρ' i u).set i (get ρ' i) = ρ'
      rw [set_set]
      unfold get
      rw [List.getElem?_eq_getElem hi]
      simp
    rw [eb]
    exact q
theorem wp_lcN {i : Nat} {a e : M} {ρ ρ1 : Env} {Q : R → Env → Prop} (n : Nat) (hv : Nat → PV) (hi : i < ρ1.length) (hl : n ≤ line)
    (h : Wp a ρ fun x ρ' => look x ρ' = some (.pv (.int n)) ∧ ρ' = ρ1)
    (step : ∀ k, k < n → Wp e (List.set ρ1 i (some (.val (natI k)))) fun r ρ3 => FrzQ r ρ3 fun v ρ4 => v = hv k ∧ ρ4 = List.set ρ1 i (some (.val (natI k))))
    (q : Q (.new (.lst ((List.range n).map hv))) ρ1) : Wp (mLc (iRng1 a) (gName i) [i] tYes e) ρ Q := by
  have hz : ((List.range n).map fun (k : Nat) => PyData.int (k : Int)).length = n := by simp
  refine wp_lcK ((List.range n).map fun (k : Nat) => PyData.int (k : Int)) hv hi (by rw [hz]; exact hl) (wp_rng1 (h.mono fun x ρ' ⟨h1, h2⟩ => ⟨n, h1, ⟨by exact_mod_cast hl, by omega⟩, by simp, h2⟩)) (fun k hk => ?_) (by rw [hz]; exact q)
  have : ((List.range n).map fun (k : Nat) => PyData.int (k : Int))[k] = natI k := by simp [natI]
  rw [this]
  exact step k (by rw [hz] at hk; exact hk)
/-- the tables -/
def tabP (r n : Nat) (T : Nat → Nat → Rat) : List PV := (List.range r).map fun i => .list (rowP n (T i))
def basP (r : Nat) (B : Nat → Nat) : List PV := (List.range r).map fun i => natI (B i)
end Py
namespace Py
open PySem D
local macro_rules
  | `(tactic| walk_at "w") => `(tactic| with_reducible first
    | refine seq_nx ?_ | refine seq_rt ?_ | refine seq_bk ?_ | refine seq_ct ?_ | refine wp_seq ?_ | refine wp_asg ?_ | refine wp_next ?_ | refine wp_ret ?_ | refine wp_retN ?_ | refine wp_brk ?_ | refine wp_cont ?_ | refine wp_expr ?_ | refine wp_op ?_ | refine wp_un ?_ | refine wp_c ?_
    | refine unB ?_ | refine wp_truB ?_ | refine wp_and ?_ | refine wp_or ?_ | refine wp_not ?_ | refine wp_ifE ?_ | refine wp_tup ?_ | refine wp_lst ?_ | refine wp_lcons ?_ | refine wp_lnil ?_ | refine frzV ?_ | refine frzN ?_ | refine wp_frz ?_ | refine wp_sl ?_ | refine wp_onone ?_ | refine wp_osome ?_
    | refine wp_anil ?_ | refine wp_av ?_ | refine wp_andV ?_ | refine wp_orV ?_ | refine wp_notV ?_ | refine wp_fgtR ?_ | refine turn_nx ?_ | refine turn_rt ?_ | refine turn_bk ?_ | refine turn_ct ?_ | refine fgt_rt ?_ | refine wp_par ?_ | refine wp_chain ?_ | refine wp_seqI ?_)
local macro_rules
  | `(tactic| walk_at "put") => `(tactic| focus ((repeat apply PutR.s); first | exact PutR.z rfl | exact PutR.z (by assumption)))
local macro_rules
  | `(tactic| walk_at "set") => `(tactic| focus ((repeat apply SetR.s); first | exact SetR.o | exact SetR.r))
local macro_rules
  | `(tactic| walk_at "fgt") => `(tactic| focus (repeat first | exact FgtsR.nil | exact FgtR.k | exact FgtR.z rfl | exact FgtR.z (by assumption) | apply FgtR.s | apply FgtsR.cons))
local macro_rules
  | `(tactic| walk_at "x") => `(tactic| first
    | ((with_reducible apply wp_varV); (focus exact rfl)) | ((with_reducible apply wp_varO); (focus exact rfl)) | ((with_reducible apply wp_varR); (focus exact rfl))
    | ((with_reducible apply opq); (focus exact rfl); (focus exact rfl); (focus (first | exact ev_eqI | exact ev_neI | exact ev_ltI | exact ev_leI | exact ev_gtI | exact ev_geI | exact ev_in2 | exact ev_in2n | exact ev_in4n | exact ev_isT | exact ev_isF | exact ev_isnT | exact ev_isnF | exact ev_eqQ0 | exact ev_eqQ1 | exact ev_eqQ | exact ev_neQ | exact ev_strT | exact ev_strF n1 | exact ev_strF n2 | exact ev_strF n3 | exact ev_strF n4 | exact ev_strF n5 | exact ev_strF n6 | exact rfl)))
    | ((with_reducible apply unq); (focus exact rfl); (focus exact rfl))
    | ((with_reducible first | apply putqV | apply putqN); walk_at "put")
    | ((with_reducible apply putqB); (focus exact rfl); (focus exact rfl); walk_at "put"; walk_at "put")
    | ((with_reducible apply putq2); walk_at "put"; walk_at "put")
    | ((with_reducible apply parq); walk_at "put"; walk_at "put")
    | ((with_reducible apply wp_callR); (focus (repeat first | exact RefsR.nil | apply RefsR.v | apply RefsR.r)); (focus decide))
    | ((with_reducible apply wp_ar); (focus exact rfl))
    | ((with_reducible apply fin_rt); (focus exact rfl); (focus exact rfl))
    | ((with_reducible apply fin_nx); (focus exact rfl))
    | ((with_reducible apply wp_appendR); (focus exact rfl))
    | (with_reducible refine ⟨_, rfl, ?_⟩) | (with_reducible refine ⟨_, .inl rfl, ?_⟩) | (with_reducible refine ⟨_, .inr (.inl rfl), ?_⟩) | (with_reducible refine ⟨_, .inr (.inr rfl), ?_⟩)
    | (with_reducible apply callq0) | ((with_reducible apply frzB); (focus exact rfl); (focus exact rfl); walk_at "put")
    | ((with_reducible apply callq1); walk_at "set")
    | ((with_reducible apply callq2); walk_at "set"; walk_at "set")
    | ((with_reducible first | apply fgt_nx | apply fgt_bk | apply fgt_ct); walk_at "fgt")
    | ((with_reducible apply brT); (focus exact rfl)) | ((with_reducible apply brF); (focus exact rfl)))
local macro_rules
  | `(tactic| walk_at "r") => `(tactic| repeat first | walk_at "w" | walk_at "x")
local macro_rules
  | `(tactic| walk_at "ri") => `(tactic| repeat first | walk_at "w" | walk_at "x" | (with_reducible refine wp_if ?_))
local macro_rules
  | `(tactic| walk_at "app") => `(tactic| ((with_reducible apply appq); (focus exact rfl); (focus ((try simp only [List.length_map, List.length_nil, List.length_cons, List.length_append]); unfold line; omega)); walk_at "set"))
local macro_rules
  | `(tactic| walk_at "mul") => `(tactic| ((refine opq rfl rfl (ev_mul ?_) ?_); (focus (apply mulT <;> omega))))
local macro_rules
  | `(tactic| walk_at "rm") => `(tactic| repeat first | walk_at "w" | walk_at "x" | walk_at "mul")
local macro_rules
  | `(tactic| walk_at "len") => `(tactic| (refine And.intro ?_ ?_; (focus (simp [line]; done))))
local macro_rules
  | `(tactic| walk_at "rl") => `(tactic| repeat first | walk_at "w" | walk_at "x" | walk_at "len")
local macro_rules
  | `(tactic| walk_at "ril") => `(tactic| repeat first | walk_at "w" | walk_at "x" | walk_at "len" | (with_reducible refine wp_if ?_))
/-! QRa: rings, plain: steps to a die, and the steps between all pairs. -/
section
variable {B : Nat → Nat → Bool} {n s t : Nat}
/-- reached within so many steps -/
def seen (B : Nat → Nat → Bool) (n s : Nat) : Nat → Nat → Bool
  | 0, x => decide (x = s)
  | r + 1, x => seen B n s r x || (List.range n).any fun c => B x c && seen B n s r c
def lev (B : Nat → Nat → Bool) (n s : Nat) : Nat → Nat → Bool
  | 0, x => decide (x = s)
  | r + 1, x => seen B n s (r + 1) x && !seen B n s r x
theorem lev_s {r x : Nat} : lev B n s (r + 1) x = (seen B n s (r + 1) x && !seen B n s r x) := rfl
theorem seen_succ {r x : Nat} (h : seen B n s r x = true) : seen B n s (r + 1) x = true := by
  unfold seen
  rw [h, Bool.true_or]
theorem seen_mono {r q x : Nat} (h : seen B n s r x = true) (hq : r ≤ q) : seen B n s q x = true := by
  obtain ⟨k, rfl⟩ := Nat.le.dest hq
  clear hq
  induction k with
  | zero => exact h
  | succ k ih => exact seen_succ ih
theorem seen_step {r x c : Nat} (hb : B x c = true) (hc : c < n) (h : seen B n s r c = true) : seen B n s (r + 1) x = true := by
  unfold seen
  rw [Bool.or_eq_true]
  refine .inr (List.any_eq_true.mpr ⟨c, List.mem_range.mpr hc, ?_⟩)
  rw [hb, h]
  rfl
theorem lev_seen {r x : Nat} (h : lev B n s r x = true) : seen B n s r x = true := by
  cases r with
  | zero => exact h
  | succ r =>
    unfold lev at h
    rw [Bool.and_eq_true] at h
    exact h.1
theorem lev_not {r q x : Nat} (h : lev B n s r x = true) (hq : q < r) : seen B n s q x = false := by
  cases r with
  | zero => omega
  | succ r =>
    unfold lev at h
    rw [Bool.and_eq_true, Bool.not_eq_true'] at h
    cases e : seen B n s q x with
    | false => rfl
    | true => rw [seen_mono e (show q ≤ r by omega)] at h; exact absurd h.2 (by decide)
theorem lev_uniq {d e x : Nat} (h : lev B n s d x = true) (h2 : lev B n s e x = true) : d = e := by
  rcases Nat.lt_trichotomy d e with c | c | c
  · have := lev_not h2 c
    rw [lev_seen h] at this
    cases this
  · exact c
  · have := lev_not h c
    rw [lev_seen h2] at this
    cases this
theorem seen_lev {r x : Nat} (h : seen B n s r x = true) : ∃ d, d ≤ r ∧ lev B n s d x = true := by
  induction r with
  | zero => exact ⟨0, Nat.le_refl _, h⟩
  | succ r ih =>
    cases e : seen B n s r x with
    | true => obtain ⟨d, h1, h2⟩ := ih e; exact ⟨d, by omega, h2⟩
    | false =>
      refine ⟨r + 1, Nat.le_refl _, ?_⟩
      rw [lev_s, h, e]
      rfl
theorem lev_step {r x : Nat} (h : lev B n s (r + 1) x = true) : ∃ c, c < n ∧ B x c = true ∧ lev B n s r c = true := by
  have h1 := lev_seen h
  have h2 := lev_not h (Nat.lt_succ_self r)
  unfold seen at h1
  rw [h2, Bool.false_or] at h1
  obtain ⟨c, hc, hx⟩ := List.any_eq_true.mp h1
  rw [Bool.and_eq_true] at hx
  refine ⟨c, List.mem_range.mp hc, hx.1, ?_⟩
  obtain ⟨d, hd, hl⟩ := seen_lev hx.2
  by_cases e : d = r
  · rw [← e]; exact hl
  · have := seen_step hx.1 (List.mem_range.mp hc) (lev_seen hl)
    rw [seen_mono this (show d + 1 ≤ r by omega)] at h2
    cases h2
/-- the next dice of the search -/
theorem lev_next {r x : Nat} : lev B n s (r + 1) x = (!seen B n s r x && (List.range n).any fun c => B x c && lev B n s r c) := by
  cases e : seen B n s r x with
  | true => rw [lev_s, e]; simp
  | false =>
    rw [Bool.not_false, Bool.true_and, Bool.eq_iff_iff, List.any_eq_true]
    constructor
    · intro h
      obtain ⟨c, h1, h2, h3⟩ := lev_step h
      exact ⟨c, List.mem_range.mpr h1, by rw [h2, h3]; rfl⟩
    · rintro ⟨c, h1, h2⟩
      rw [Bool.and_eq_true] at h2
      rw [lev_s, e, seen_step h2.1 (List.mem_range.mp h1) (lev_seen h2.2)]
      rfl
theorem lev_zero_s : lev B n s 0 s = true := decide_eq_true rfl
/-- what has been found so far -/
def dO (B : Nat → Nat → Bool) (n s : Nat) : Nat → Nat → Option Nat
  | 0, x => if lev B n s 0 x = true then some 0 else none
  | r + 1, x => if lev B n s (r + 1) x = true then some (r + 1) else dO B n s r x
theorem dO_none {r x : Nat} : dO B n s r x = none ↔ seen B n s r x = false := by
  induction r with
  | zero =>
    unfold dO
    show (if seen B n s 0 x = true then some 0 else none) = none ↔ _
    cases seen B n s 0 x <;> simp
  | succ r ih =>
    unfold dO
    cases e : lev B n s (r + 1) x with
    | true => rw [if_pos rfl, lev_seen e]; simp
    | false =>
      rw [if_neg (by decide), ih]
      constructor
      · intro h
        cases e2 : seen B n s (r + 1) x with
        | false => rfl
        | true =>
          rw [lev_s, e2, h] at e
          cases e
      · intro h
        cases e2 : seen B n s r x with
        | false => rfl
        | true => rw [seen_succ e2] at h; cases h
theorem dO_lev {r x d : Nat} (h : dO B n s r x = some d) : lev B n s d x = true ∧ d ≤ r := by
  induction r with
  | zero =>
    unfold dO at h
    split at h
    · rename_i c; cases h; exact ⟨c, Nat.le_refl _⟩
    · cases h
  | succ r ih =>
    unfold dO at h
    split at h
    · rename_i c; cases h; exact ⟨c, Nat.le_refl _⟩
    · have := ih h; exact ⟨this.1, by omega⟩
theorem lev_dO {r x d : Nat} (h : lev B n s d x = true) (hd : d ≤ r) : dO B n s r x = some d := by
  cases e : dO B n s r x with
  | none =>
    have := dO_none.mp e
    rw [seen_mono (lev_seen h) hd] at this
    cases this
  | some d' => rw [lev_uniq (dO_lev e).1 h]
theorem lev_stop {r : Nat} (h : ∀ x, x < n → lev B n s r x = false) : ∀ d, r ≤ d → ∀ x, x < n → lev B n s d x = false := fun d hd => by
  obtain ⟨k, rfl⟩ := Nat.le.dest hd
  clear hd
  induction k with
  | zero => exact h
  | succ k ih =>
    intro x hx
    cases e : lev B n s (r + (k + 1)) x with
    | false => rfl
    | true =>
      obtain ⟨c, h1, _, h3⟩ := lev_step (r := r + k) e
      rw [ih c h1] at h3
      cases h3
/-- at the end all is found -/
theorem dO_all {r x d : Nat} (h : ∀ x, x < n → lev B n s r x = false) (hx : x < n) : dO B n s r x = some d ↔ lev B n s d x = true := by
  constructor
  · exact fun e => (dO_lev e).1
  · intro e
    refine lev_dO e ?_
    by_cases c : d ≤ r
    · exact c
    · rw [lev_stop h d (by omega) x hx] at e
      cases e
theorem count_lt {p q : Nat → Bool} : ∀ {l : List Nat}, (∀ x ∈ l, p x = true → q x = true) → (∃ x ∈ l, p x = false ∧ q x = true) → l.countP p < l.countP q
  | [], _, h => by obtain ⟨x, hx, _⟩ := h; cases hx
  | y :: l, h, ⟨x, hx, h1, h2⟩ => by
    have hle : l.countP p ≤ l.countP q := List.countP_mono_left fun z hz => h z (List.mem_cons_of_mem _ hz)
    have hy := h y (List.mem_cons_self ..)
    rcases List.mem_cons.mp hx with rfl | hx
    · rw [List.countP_cons, List.countP_cons, h1, h2]
      simp
      omega
    · have ih := count_lt (fun z hz => h z (List.mem_cons_of_mem _ hz)) ⟨x, hx, h1, h2⟩
      rw [List.countP_cons, List.countP_cons]
      cases e1 : p y with
      | false => simp; cases q y <;> simp <;> omega
      | true => rw [hy e1]; simp; omega
theorem count_seen (hs : s < n) : ∀ d x, x < n → lev B n s d x = true → d + 1 ≤ (List.range n).countP (seen B n s d)
  | 0, x, hx, h => List.countP_pos_iff.mpr ⟨s, List.mem_range.mpr hs, decide_eq_true rfl⟩
  | d + 1, x, hx, h => by
    obtain ⟨c, h1, _, h3⟩ := lev_step h
    have ih := count_seen hs d c h1 h3
    have := count_lt (p := seen B n s d) (q := seen B n s (d + 1)) (l := List.range n) (fun _ _ e => seen_succ e) ⟨x, List.mem_range.mpr hx, lev_not h (Nat.lt_succ_self d), lev_seen h⟩
    omega
theorem lev_lt {d x : Nat} (hs : s < n) (hx : x < n) (h : lev B n s d x = true) : d < n := by
  have h1 := count_seen hs d x hx h
  have h2 := List.countP_le_length (p := seen B n s d) (l := List.range n)
  rw [List.length_range] at h2
  omega
/-! all pairs -/
def wk (B : Nat → Nat → Bool) : Nat → Nat → Nat → Nat
  | 0, a, b => if B a b = true then 1 else 99
  | m + 1, a, b => if wk B m a m < 99 then min (wk B m a b) (wk B m a m + wk B m m b) else wk B m a b
theorem wk_le : ∀ m a b, 1 ≤ wk B m a b ∧ wk B m a b ≤ 99
  | 0, a, b => by unfold wk; split <;> omega
  | m + 1, a, b => by
    have h1 := wk_le m a b
    have h2 := wk_le m a m
    have h3 := wk_le m m b
    unfold wk
    split <;> omega
def wlk (B : Nat → Nat → Bool) (n k a b : Nat) : Prop := ∃ o, o < n ∧ B a o = true ∧ seen B n b k o = true
theorem seen_join {m b i j o : Nat} (h1 : seen B n m i o = true) (ho : o < n) (h2 : wlk B n j m b) : seen B n b (i + j + 1) o = true := by
  induction i generalizing o with
  | zero =>
    have : o = m := of_decide_eq_true h1
    subst this
    obtain ⟨c, c1, c2, c3⟩ := h2
    rw [Nat.zero_add]
    exact seen_step c2 c1 c3
  | succ i ih =>
    unfold seen at h1
    rw [Bool.or_eq_true] at h1
    rcases h1 with h1 | h1
    · exact seen_mono (ih h1 ho) (by omega)
    · obtain ⟨c, hc, hx⟩ := List.any_eq_true.mp h1
      rw [Bool.and_eq_true] at hx
      have := seen_step hx.1 (List.mem_range.mp hc) (ih hx.2 (List.mem_range.mp hc))
      exact seen_mono this (by omega)
theorem wk_sound : ∀ m, m ≤ n → ∀ a b, b < n → wk B m a b < 99 → wlk B n (wk B m a b - 1) a b
  | 0, _, a, b, hb, h => by
    unfold wk at h ⊢
    by_cases c : B a b = true
    · rw [if_pos c]
      exact ⟨b, hb, c, decide_eq_true rfl⟩
    · rw [if_neg c] at h
      omega
  | m + 1, hm, a, b, hb, h => by
    have ih := wk_sound m (by omega)
    have l1 := wk_le (B := B) m a b
    have l2 := wk_le (B := B) m a m
    have l3 := wk_le (B := B) m m b
    unfold wk at h ⊢
    by_cases c : wk B m a m < 99
    · rw [if_pos c] at h ⊢
      by_cases d : wk B m a b ≤ wk B m a m + wk B m m b
      · rw [Nat.min_eq_left d] at h ⊢
        exact ih a b hb h
      · rw [Nat.min_eq_right (by omega)] at h ⊢
        obtain ⟨o, o1, o2, o3⟩ := ih a m (by omega) c
        have w := ih m b hb (by omega)
        refine ⟨o, o1, o2, ?_⟩
        have := seen_join o3 o1 w
        rw [show wk B m a m + wk B m m b - 1 = wk B m a m - 1 + (wk B m m b - 1) + 1 by omega]
        exact this
    · rw [if_neg c] at h ⊢
      exact ih a b hb h
def Ch (B : Nat → Nat → Bool) : Nat → List Nat → Nat → Prop
  | a, [], b => B a b = true
  | a, c :: l, b => B a c = true ∧ Ch B c l b
theorem ch_split {m : Nat} : ∀ {l : List Nat} {a b l2 : _}, Ch B a (l ++ m :: l2) b → Ch B a l m ∧ Ch B m l2 b
  | [], a, b, l2, h => h
  | c :: l, a, b, l2, h => by
    obtain ⟨h1, h2⟩ := h
    have := ch_split (l := l) h2
    exact ⟨⟨h1, this.1⟩, this.2⟩
theorem first_of {m : Nat} : ∀ {l : List Nat}, m ∈ l → ∃ l1 l2, l = l1 ++ m :: l2 ∧ m ∉ l1
  | [], h => by cases h
  | x :: l, h => by
    by_cases c : x = m
    · subst c; exact ⟨[], l, rfl, by simp⟩
    · obtain ⟨l1, l2, e, h2⟩ := first_of ((List.mem_cons.mp h).resolve_left fun z => c z.symm)
      refine ⟨x :: l1, l2, by rw [e]; rfl, fun z => ?_⟩
      rcases List.mem_cons.mp z with z | z
      · exact c z.symm
      · exact h2 z
theorem wk_back {m b : Nat} (ih : ∀ a b l, Ch B a l b → (∀ x ∈ l, x < m) → l.length + 1 < 99 → wk B m a b ≤ l.length + 1) : ∀ k, ∀ l, l.length ≤ k → Ch B m l b → (∀ x ∈ l, x < m + 1) → l.length + 1 < 99 → wk B m m b ≤ l.length + 1
  | 0, l, hk, h, hl, hn => ih m b l h (fun x hx => by have : l = [] := List.length_eq_zero_iff.mp (by omega); rw [this] at hx; cases hx) hn
  | k + 1, l, hk, h, hl, hn => by
    by_cases c : m ∈ l
    · obtain ⟨l1, l2, e, _⟩ := first_of c
      subst e
      obtain ⟨_, h2⟩ := ch_split h
      rw [List.length_append, List.length_cons] at *
      have := wk_back ih k l2 (by omega) h2 (fun x hx => hl x (List.mem_append_right _ (List.mem_cons_of_mem _ hx))) (by omega)
      omega
    · refine ih m b l h (fun x hx => ?_) hn
      have := hl x hx
      have : x ≠ m := fun e => c (e ▸ hx)
      omega
theorem wk_complete : ∀ m a b l, Ch B a l b → (∀ x ∈ l, x < m) → l.length + 1 < 99 → wk B m a b ≤ l.length + 1
  | 0, a, b, l, h, hl, hn => by
    cases l with
    | nil => unfold wk; rw [if_pos (show B a b = true from h)]; simp
    | cons x l => exact absurd (hl x (List.mem_cons_self ..)) (by omega)
  | m + 1, a, b, l, h, hl, hn => by
    have ih := wk_complete m
    by_cases c : m ∈ l
    · obtain ⟨l1, l2, e, hm⟩ := first_of c
      subst e
      obtain ⟨h1, h2⟩ := ch_split h
      rw [List.length_append, List.length_cons] at *
      have b1 := ih a m l1 h1 (fun x hx => by
        have := hl x (List.mem_append_left _ hx)
        have : x ≠ m := fun e => hm (e ▸ hx)
        omega) (by omega)
      have b2 := wk_back ih l2.length l2 (Nat.le_refl _) h2 (fun x hx => hl x (List.mem_append_right _ (List.mem_cons_of_mem _ hx))) (by omega)
      unfold wk
      rw [if_pos (by omega)]
      omega
    · have := ih a b l h (fun x hx => by
        have := hl x hx
        have : x ≠ m := fun e => c (e ▸ hx)
        omega) hn
      unfold wk
      split <;> omega
theorem lev_ch : ∀ {d a o : Nat}, o < n → B a o = true → lev B n s d o = true → ∃ l, Ch B a l s ∧ l.length = d ∧ ∀ x ∈ l, x < n
  | 0, a, o, ho, hb, h => by
    have : o = s := of_decide_eq_true h
    subst this
    exact ⟨[], hb, rfl, fun x hx => by cases hx⟩
  | d + 1, a, o, ho, hb, h => by
    obtain ⟨c, h1, h2, h3⟩ := lev_step h
    obtain ⟨l, g1, g2, g3⟩ := lev_ch h1 h2 h3
    refine ⟨o :: l, ⟨hb, g1⟩, by rw [List.length_cons, g2], fun x hx => ?_⟩
    rcases List.mem_cons.mp hx with rfl | hx
    · exact ho
    · exact g3 x hx
/-- the shortest way back from a die -/
structure IsM (B : Nat → Nat → Bool) (n s m : Nat) : Prop where
  ex : ∃ o, o < n ∧ B s o = true ∧ lev B n s m o = true
  le : ∀ o, o < n → B s o = true → ∀ d, lev B n s d o = true → m ≤ d
theorem isM_lt {m : Nat} (hs : s < n) (h : IsM B n s m) : m < n := by
  obtain ⟨o, h1, _, h3⟩ := h.ex
  exact lev_lt hs h1 h3
theorem wk_isM {m : Nat} (hn : n ≤ 90) (hs : s < n) (h : IsM B n s m) : wk B n s s = m + 1 := by
  have hm := isM_lt hs h
  obtain ⟨o, h1, h2, h3⟩ := h.ex
  obtain ⟨l, g1, g2, g3⟩ := lev_ch h1 h2 h3
  have u := wk_complete n s s l g1 g3 (by omega)
  have b := wk_le (B := B) n s s
  obtain ⟨o', o1, o2, o3⟩ := wk_sound (B := B) n (Nat.le_refl n) s s hs (by omega)
  obtain ⟨d, d1, d2⟩ := seen_lev o3
  have := h.le o' o1 o2 d d2
  omega
theorem wk_noM (hs : s < n) (h : ∀ m, ¬ IsM B n s m) : wk B n s s = 99 := by
  have b := wk_le (B := B) n s s
  by_cases c : wk B n s s < 99
  · exfalso
    obtain ⟨o, o1, o2, o3⟩ := wk_sound (B := B) n (Nat.le_refl n) s s hs c
    obtain ⟨d, d1, d2⟩ := seen_lev o3
    have : ∀ k d, d ≤ k → (∃ o, o < n ∧ B s o = true ∧ lev B n s d o = true) → False := by
      intro k
      induction k with
      | zero =>
        intro d hd hx
        obtain rfl : d = 0 := by omega
        exact h 0 ⟨hx, fun _ _ _ _ _ => Nat.zero_le _⟩
      | succ k ih =>
        intro d hd hx
        by_cases e : ∃ d', d' < d ∧ ∃ o, o < n ∧ B s o = true ∧ lev B n s d' o = true
        · obtain ⟨d', e1, e2⟩ := e
          exact ih d' (by omega) e2
        · refine h d ⟨hx, fun o g1 g2 d' g3 => ?_⟩
          by_cases w : d ≤ d'
          · exact w
          · exact absurd ⟨d', by omega, o, g1, g2, g3⟩ e
    exact this d d (Nat.le_refl d) ⟨o, o1, o2, d2⟩
  · omega
theorem wk_lev {x d : Nat} (hn : n ≤ 90) (hs : s < n) (hx : x < n) (h : lev B n s (d + 1) x = true) : wk B n x s = d + 1 := by
  have hd := lev_lt hs hx h
  obtain ⟨c, h1, h2, h3⟩ := lev_step h
  obtain ⟨l, g1, g2, g3⟩ := lev_ch h1 h2 h3
  have u := wk_complete n x s l g1 g3 (by omega)
  have b := wk_le (B := B) n x s
  obtain ⟨o, o1, o2, o3⟩ := wk_sound (B := B) n (Nat.le_refl n) x s hs (by omega)
  obtain ⟨d', d1, d2⟩ := seen_lev (seen_step o2 o1 o3)
  have := lev_uniq h d2
  omega
/-- the two tables tell the same dice at each step of a ring -/
theorem lev_wk {m left x : Nat} (hn : n ≤ 90) (hs : s < n) (hx : x < n) (hM : IsM B n s m) (h1 : 1 ≤ left) (h2 : left ≤ m) : decide (wk B n x s = left) = lev B n s left x := by
  obtain ⟨d, rfl⟩ : ∃ d, left = d + 1 := ⟨left - 1, by omega⟩
  have hm := isM_lt hs hM
  rw [Bool.eq_iff_iff, decide_eq_true_iff]
  constructor
  · intro h
    have b := wk_le (B := B) n x s
    obtain ⟨o, o1, o2, o3⟩ := wk_sound (B := B) n (Nat.le_refl n) x s hs (by omega)
    obtain ⟨d', d1, d2⟩ := seen_lev (seen_step o2 o1 o3)
    cases d' with
    | zero =>
      have : x = s := of_decide_eq_true d2
      subst this
      rw [wk_isM hn hs hM] at h
      omega
    | succ d' =>
      rw [wk_lev hn hs hx d2] at h
      rw [← h]
      exact d2
  · exact fun h => wk_lev hn hs hx h
end
end Py
namespace Py
open PySem D
local macro_rules
  | `(tactic| walk_at "w") => `(tactic| with_reducible first
    | refine seq_nx ?_ | refine seq_rt ?_ | refine seq_bk ?_ | refine seq_ct ?_ | refine wp_seq ?_ | refine wp_asg ?_ | refine wp_next ?_ | refine wp_ret ?_ | refine wp_retN ?_ | refine wp_brk ?_ | refine wp_cont ?_ | refine wp_expr ?_ | refine wp_op ?_ | refine wp_un ?_ | refine wp_c ?_
    | refine unB ?_ | refine wp_truB ?_ | refine wp_and ?_ | refine wp_or ?_ | refine wp_not ?_ | refine wp_ifE ?_ | refine wp_tup ?_ | refine wp_lst ?_ | refine wp_lcons ?_ | refine wp_lnil ?_ | refine frzV ?_ | refine frzN ?_ | refine wp_frz ?_ | refine wp_sl ?_ | refine wp_onone ?_ | refine wp_osome ?_
    | refine wp_anil ?_ | refine wp_av ?_ | refine wp_andV ?_ | refine wp_orV ?_ | refine wp_notV ?_ | refine wp_fgtR ?_ | refine turn_nx ?_ | refine turn_rt ?_ | refine turn_bk ?_ | refine turn_ct ?_ | refine fgt_rt ?_ | refine wp_par ?_ | refine wp_chain ?_ | refine wp_seqI ?_)
local macro_rules
  | `(tactic| walk_at "put") => `(tactic| focus ((repeat apply PutR.s); first | exact PutR.z rfl | exact PutR.z (by assumption)))
local macro_rules
  | `(tactic| walk_at "set") => `(tactic| focus ((repeat apply SetR.s); first | exact SetR.o | exact SetR.r))
local macro_rules
  | `(tactic| walk_at "fgt") => `(tactic| focus (repeat first | exact FgtsR.nil | exact FgtR.k | exact FgtR.z rfl | exact FgtR.z (by assumption) | apply FgtR.s | apply FgtsR.cons))
local macro_rules
  | `(tactic| walk_at "x") => `(tactic| first
    | ((with_reducible apply wp_varV); (focus exact rfl)) | ((with_reducible apply wp_varO); (focus exact rfl)) | ((with_reducible apply wp_varR); (focus exact rfl))
    | ((with_reducible apply opq); (focus exact rfl); (focus exact rfl); (focus (first | exact ev_eqI | exact ev_neI | exact ev_ltI | exact ev_leI | exact ev_gtI | exact ev_geI | exact ev_in2 | exact ev_in2n | exact ev_in4n | exact ev_isT | exact ev_isF | exact ev_isnT | exact ev_isnF | exact ev_eqQ0 | exact ev_eqQ1 | exact ev_eqQ | exact ev_neQ | exact ev_strT | exact ev_strF n1 | exact ev_strF n2 | exact ev_strF n3 | exact ev_strF n4 | exact ev_strF n5 | exact ev_strF n6 | exact rfl)))
    | ((with_reducible apply unq); (focus exact rfl); (focus exact rfl))
    | ((with_reducible first | apply putqV | apply putqN); walk_at "put")
    | ((with_reducible apply putqB); (focus exact rfl); (focus exact rfl); walk_at "put"; walk_at "put")
    | ((with_reducible apply putq2); walk_at "put"; walk_at "put")
    | ((with_reducible apply parq); walk_at "put"; walk_at "put")
    | ((with_reducible apply wp_callR); (focus (repeat first | exact RefsR.nil | apply RefsR.v | apply RefsR.r)); (focus decide))
    | ((with_reducible apply wp_ar); (focus exact rfl))
    | ((with_reducible apply fin_rt); (focus exact rfl); (focus exact rfl))
    | ((with_reducible apply fin_nx); (focus exact rfl))
    | ((with_reducible apply wp_appendR); (focus exact rfl))
    | (with_reducible refine ⟨_, rfl, ?_⟩) | (with_reducible refine ⟨_, .inl rfl, ?_⟩) | (with_reducible refine ⟨_, .inr (.inl rfl), ?_⟩) | (with_reducible refine ⟨_, .inr (.inr rfl), ?_⟩)
    | (with_reducible apply callq0) | ((with_reducible apply frzB); (focus exact rfl); (focus exact rfl); walk_at "put")
    | ((with_reducible apply callq1); walk_at "set")
    | ((with_reducible apply callq2); walk_at "set"; walk_at "set")
    | ((with_reducible first | apply fgt_nx | apply fgt_bk | apply fgt_ct); walk_at "fgt")
    | ((with_reducible apply brT); (focus exact rfl)) | ((with_reducible apply brF); (focus exact rfl)))
local macro_rules
  | `(tactic| walk_at "r") => `(tactic| repeat first | walk_at "w" | walk_at "x")
local macro_rules
  | `(tactic| walk_at "ri") => `(tactic| repeat first | walk_at "w" | walk_at "x" | (with_reducible refine wp_if ?_))
local macro_rules
  | `(tactic| walk_at "app") => `(tactic| ((with_reducible apply appq); (focus exact rfl); (focus ((try simp only [List.length_map, List.length_nil, List.length_cons, List.length_append]); unfold line; omega)); walk_at "set"))
local macro_rules
  | `(tactic| walk_at "mul") => `(tactic| ((refine opq rfl rfl (ev_mul ?_) ?_); (focus (apply mulT <;> omega))))
local macro_rules
  | `(tactic| walk_at "rm") => `(tactic| repeat first | walk_at "w" | walk_at "x" | walk_at "mul")
local macro_rules
  | `(tactic| walk_at "len") => `(tactic| (refine And.intro ?_ ?_; (focus (simp [line]; done))))
local macro_rules
  | `(tactic| walk_at "rl") => `(tactic| repeat first | walk_at "w" | walk_at "x" | walk_at "len")
local macro_rules
  | `(tactic| walk_at "ril") => `(tactic| repeat first | walk_at "w" | walk_at "x" | walk_at "len" | (with_reducible refine wp_if ?_))
/-! QRb: rings, plain: the least ring. -/
section
variable {B : Nat → Nat → Bool} {n s t : Nat}
def pickB (B : Nat → Nat → Bool) (n s left last : Nat) : Nat := ((List.range n).filter fun o => B last o && lev B n s left o).headD 0
def gr (B : Nat → Nat → Bool) (n s : Nat) : Nat → Nat → List Nat
  | 0, _ => []
  | left + 1, last => pickB B n s (left + 1) last :: gr B n s left (pickB B n s (left + 1) last)
theorem head_filter {p : Nat → Bool} {y : Nat} (hy : y < n) (h : p y = true) : ∃ x l, (List.range n).filter p = x :: l ∧ x ≤ y ∧ x < n ∧ p x = true := by
  have hm : y ∈ (List.range n).filter p := List.mem_filter.mpr ⟨List.mem_range.mpr hy, h⟩
  have hs : ((List.range n).filter p).Pairwise (· < ·) := List.pairwise_lt_range.filter _
  have ha : ∀ x ∈ (List.range n).filter p, x < n ∧ p x = true := fun x hx => by
    obtain ⟨h1, h2⟩ := List.mem_filter.mp hx
    exact ⟨List.mem_range.mp h1, h2⟩
  cases e : (List.range n).filter p with
  | nil => rw [e] at hm; cases hm
  | cons x l =>
    rw [e] at hm hs ha
    refine ⟨x, l, rfl, ?_, ha x (List.mem_cons_self ..)⟩
    rcases List.mem_cons.mp hm with rfl | hm
    · exact Nat.le_refl _
    · exact Nat.le_of_lt ((List.pairwise_cons.mp hs).1 y hm)
theorem pick_ok {left last y : Nat} (hy : y < n) (h1 : B last y = true) (h2 : lev B n s left y = true) : pickB B n s left last ≤ y ∧ pickB B n s left last < n ∧ B last (pickB B n s left last) = true ∧ lev B n s left (pickB B n s left last) = true := by
  obtain ⟨x, l, e, hx, hn, hp⟩ := head_filter (p := fun o => B last o && lev B n s left o) hy (by rw [h1, h2]; rfl)
  have : pickB B n s left last = x := by unfold pickB; rw [e]; rfl
  rw [this]
  rw [Bool.and_eq_true] at hp
  exact ⟨hx, hn, hp.1, hp.2⟩
theorem gr_len : ∀ left last, (gr B n s left last).length = left
  | 0, _ => rfl
  | left + 1, last => by rw [gr, List.length_cons, gr_len left]
def Chn (B : Nat → Nat → Bool) : List Nat → Prop
  | [] => True
  | [_] => True
  | x :: y :: l => B x y = true ∧ Chn B (y :: l)
def lastD (l : List Nat) : Nat := l.getLastD 0
theorem isM_uniq {m m' : Nat} (h : IsM B n s m) (h' : IsM B n s m') : m = m' := by
  obtain ⟨o, h1, h2, h3⟩ := h.ex
  obtain ⟨o', h1', h2', h3'⟩ := h'.ex
  have a := h.le o' h1' h2' m' h3'
  have b := h'.le o h1 h2 m h3
  omega
theorem isM_of : ∀ d, (∃ o, o < n ∧ B s o = true ∧ lev B n s d o = true) → ∃ m, m ≤ d ∧ IsM B n s m := fun d => by
  have : ∀ k d, d ≤ k → (∃ o, o < n ∧ B s o = true ∧ lev B n s d o = true) → ∃ m, m ≤ d ∧ IsM B n s m := by
    intro k
    induction k with
    | zero =>
      intro d hd hx
      obtain rfl : d = 0 := by omega
      exact ⟨0, Nat.le_refl _, hx, fun _ _ _ _ _ => Nat.zero_le _⟩
    | succ k ih =>
      intro d hd hx
      by_cases e : ∃ d', d' < d ∧ ∃ o, o < n ∧ B s o = true ∧ lev B n s d' o = true
      · obtain ⟨d', e1, e2⟩ := e
        obtain ⟨m, m1, m2⟩ := ih d' (by omega) e2
        exact ⟨m, by omega, m2⟩
      · refine ⟨d, Nat.le_refl _, hx, fun o g1 g2 d' g3 => ?_⟩
        by_cases w : d ≤ d'
        · exact w
        · exact absurd ⟨d', by omega, o, g1, g2, g3⟩ e
  exact this d d (Nat.le_refl d)
/-- the fewest dice, and of several rings the least -/
inductive Best (B : Nat → Nat → Bool) (n : Nat) : Option (List Nat) → Prop
  | none (h : ∀ s, s < n → ∀ m, ¬ IsM B n s m) : Best B n none
  | some {s m : Nat} (hs : s < n) (hM : IsM B n s m) (h : ∀ s', s' < n → ∀ m', IsM B n s' m' → m ≤ m' ∧ (m = m' → s ≤ s')) : Best B n (some (s :: gr B n s m s))
theorem Best.uniq {a b : Option (List Nat)} (ha : Best B n a) (hb : Best B n b) : a = b := by
  cases ha with
  | none h =>
    cases hb with
    | none _ => rfl
    | some hs hM _ => exact absurd hM (h _ hs _)
  | some hs hM h =>
    cases hb with
    | none h' => exact absurd hM (h' _ hs _)
    | some hs' hM' h' =>
      rename_i s m s' m'
      have a := h s' hs' m' hM'
      have b := h' s hs m hM
      obtain rfl : m = m' := by omega
      obtain rfl : s = s' := by have := a.2 rfl; have := b.2 rfl; omega
      rfl
/-- from a die that is left + 1 steps away, or the first one, the next is left steps away -/
def Go (B : Nat → Nat → Bool) (n s left last : Nat) : Prop := ∃ o, o < n ∧ B last o = true ∧ lev B n s left o = true
theorem go_next {left last : Nat} (h : Go B n s (left + 1) last) : left = 0 ∨ Go B n s left (pickB B n s (left + 1) last) := by
  cases left with
  | zero => exact .inl rfl
  | succ left =>
    obtain ⟨o, h1, h2, h3⟩ := h
    have hp := pick_ok h1 h2 h3
    obtain ⟨c, c1, c2, c3⟩ := lev_step hp.2.2.2
    exact .inr ⟨c, c1, c2, c3⟩
theorem gr_mem : ∀ left last, (left = 0 ∨ Go B n s left last) → ∀ x ∈ gr B n s left last, x < n ∧ ∃ d, 1 ≤ d ∧ d ≤ left ∧ lev B n s d x = true
  | 0, _, _, x, hx => by cases hx
  | left + 1, last, hg, x, hx => by
    have hg' := hg.resolve_left (by omega)
    obtain ⟨o, h1, h2, h3⟩ := id hg'
    have hp := pick_ok h1 h2 h3
    rw [gr] at hx
    rcases List.mem_cons.mp hx with rfl | hx
    · exact ⟨hp.2.1, left + 1, by omega, Nat.le_refl _, hp.2.2.2⟩
    · obtain ⟨g1, d, g2, g3, g4⟩ := gr_mem left _ (go_next hg') x hx
      exact ⟨g1, d, g2, by omega, g4⟩
theorem gr_nodup : ∀ left last, (left = 0 ∨ Go B n s left last) → (gr B n s left last).Nodup
  | 0, _, _ => List.nodup_nil
  | left + 1, last, hg => by
    have hg' := hg.resolve_left (by omega)
    obtain ⟨o, h1, h2, h3⟩ := id hg'
    have hp := pick_ok h1 h2 h3
    rw [gr, List.nodup_cons]
    refine ⟨fun hx => ?_, gr_nodup left _ (go_next hg')⟩
    obtain ⟨_, d, _, g3, g4⟩ := gr_mem left _ (go_next hg') _ hx
    have := lev_uniq hp.2.2.2 g4
    omega
theorem gr_chn : ∀ left last, (left = 0 ∨ Go B n s left last) → Chn B (last :: gr B n s left last)
  | 0, _, _ => trivial
  | left + 1, last, hg => by
    have hg' := hg.resolve_left (by omega)
    obtain ⟨o, h1, h2, h3⟩ := id hg'
    have hp := pick_ok h1 h2 h3
    rw [gr]
    exact ⟨hp.2.2.1, gr_chn left _ (go_next hg')⟩
theorem lastD_cons {x y : Nat} {l : List Nat} : lastD (x :: y :: l) = lastD (y :: l) := rfl
theorem gr_close : ∀ left last, (left = 0 ∧ B last s = true ∨ Go B n s left last ∧ 1 ≤ left) → B (lastD (last :: gr B n s left last)) s = true
  | 0, last, h => (h.resolve_right fun z => by omega).2
  | left + 1, last, h => by
    obtain ⟨hg, _⟩ := h.resolve_left fun z => by omega
    obtain ⟨o, h1, h2, h3⟩ := id hg
    have hp := pick_ok h1 h2 h3
    rw [gr, lastD_cons]
    refine gr_close left _ ?_
    cases left with
    | zero =>
      refine .inl ⟨rfl, ?_⟩
      obtain ⟨c, c1, c2, c3⟩ := lev_step hp.2.2.2
      have : c = s := of_decide_eq_true c3
      rw [this] at c2
      exact c2
    | succ left => exact .inr ⟨(go_next hg).resolve_left (by omega), by omega⟩
/-- no closed row of as many dice is less -/
theorem back_seen (hs : s < n) : ∀ (l : List Nat) (x : Nat), (∀ y ∈ l, y < n) → Chn B (x :: l) → B (lastD (x :: l)) s = true → seen B n s (l.length + 1) x = true
  | [], x, _, _, h => seen_step (r := 0) h hs (decide_eq_true rfl)
  | y :: l, x, hl, hc, h => seen_step hc.1 (hl y (List.mem_cons_self ..)) (back_seen hs l y (fun z hz => hl z (List.mem_cons_of_mem _ hz)) hc.2 h)
theorem gr_le (hs : s < n) : ∀ (left last : Nat) (l : List Nat), l.length = left → (∀ y ∈ l, y < n) → Chn B (last :: l) → B (lastD (last :: l)) s = true → (∀ o, o < n → B last o = true → ∀ d, lev B n s d o = true → left ≤ d) → ¬ l < gr B n s left last
  | 0, last, l, hl, _, _, _, _ => by
    have : l = [] := List.length_eq_zero_iff.mp hl
    subst this
    exact List.not_lt_nil _
  | left + 1, last, [], hl, _, _, _, _ => by cases hl
  | left + 1, last, y :: l, hl, hn, hc, hb, hmin => by
    have hl' : l.length = left := by simpa using hl
    have hy := hn y (List.mem_cons_self ..)
    have hn' : ∀ z ∈ l, z < n := fun z hz => hn z (List.mem_cons_of_mem _ hz)
    have h1 := back_seen hs l y hn' hc.2 hb
    obtain ⟨d, d1, d2⟩ := seen_lev h1
    have d3 := hmin y hy hc.1 d d2
    obtain rfl : d = left + 1 := by omega
    have hp := pick_ok hy hc.1 d2
    rw [gr, List.cons_lt_cons_iff]
    rintro (h | ⟨h, h'⟩)
    · omega
    · refine gr_le hs left _ l hl' hn' (by rw [← h]; exact hc.2) (by rw [← h]; exact hb) (fun o ho hB d hd => ?_) h'
      have := seen_step hB ho (lev_seen hd)
      obtain ⟨e, e1, e2⟩ := seen_lev this
      have := lev_uniq hp.2.2.2 e2
      omega
end
/-! all rows of different dice -/
section
variable {B : Nat → Nat → Bool} {n s t : Nat}
def extB (B : Nat → Nat → Bool) (n : Nat) (row : List Nat) : List (List Nat) := ((List.range n).filter fun x => !decide (x ∈ row) && (decide (row.length = 0) || B (lastD row) x)).map fun x => row ++ [x]
def rowsB (B : Nat → Nat → Bool) (n : Nat) : Nat → List (List Nat)
  | 0 => [[]]
  | k + 1 => (rowsB B n k).flatMap (extB B n)
theorem chn_snoc {x : Nat} : ∀ {l : List Nat}, Chn B (l ++ [x]) ↔ Chn B l ∧ (l.length = 0 ∨ B (lastD l) x = true)
  | [] => ⟨fun _ => ⟨trivial, .inl rfl⟩, fun _ => trivial⟩
  | [y] => ⟨fun h => ⟨trivial, .inr h.1⟩, fun h => ⟨h.2.resolve_left (by simp), trivial⟩⟩
  | y :: z :: l => by
    have ih := chn_snoc (x := x) (l := z :: l)
    constructor
    · intro h
      have := ih.mp h.2
      exact ⟨⟨h.1, this.1⟩, .inr (this.2.resolve_left (by simp))⟩
    · intro h
      exact ⟨h.1.1, ih.mpr ⟨h.1.2, .inr (h.2.resolve_left (by simp))⟩⟩
theorem rows_mem : ∀ {k : Nat} {r : List Nat}, r ∈ rowsB B n k ↔ r.length = k ∧ r.Nodup ∧ (∀ x ∈ r, x < n) ∧ Chn B r
  | 0, r => by
    constructor
    · intro h
      rw [List.mem_singleton.mp h]
      exact ⟨rfl, List.nodup_nil, (fun x hx => by cases hx), trivial⟩
    · intro h
      rw [List.length_eq_zero_iff.mp h.1]
      exact List.mem_singleton.mpr rfl
  | k + 1, r => by
    constructor
    · intro h
      obtain ⟨r', h1, h2⟩ := List.mem_flatMap.mp h
      obtain ⟨x, hx, rfl⟩ := List.mem_map.mp h2
      obtain ⟨hx1, hx2⟩ := List.mem_filter.mp hx
      rw [Bool.and_eq_true, Bool.not_eq_true', decide_eq_false_iff_not, Bool.or_eq_true, decide_eq_true_iff] at hx2
      obtain ⟨g1, g2, g3, g4⟩ := rows_mem.mp h1
      refine ⟨by rw [List.length_append, g1, List.length_singleton], ?_, fun y hy => ?_, chn_snoc.mpr ⟨g4, hx2.2⟩⟩
      · rw [List.nodup_append]
        exact ⟨g2, by simp, fun a ha b hb e => hx2.1 (by rw [← List.mem_singleton.mp hb, ← e]; exact ha)⟩
      · rcases List.mem_append.mp hy with hy | hy
        · exact g3 y hy
        · rw [List.mem_singleton.mp hy]; exact List.mem_range.mp hx1
    · rintro ⟨g1, g2, g3, g4⟩
      obtain ⟨r', x, rfl⟩ : ∃ r' x, r = r' ++ [x] := by
        have hne : r ≠ [] := fun e => by rw [e] at g1; cases g1
        exact ⟨r.dropLast, r.getLast hne, (List.dropLast_concat_getLast hne).symm⟩
      rw [List.length_append, List.length_singleton] at g1
      obtain ⟨n1, _, n3⟩ := List.nodup_append.mp g2
      obtain ⟨c1, c2⟩ := chn_snoc.mp g4
      refine List.mem_flatMap.mpr ⟨r', rows_mem.mpr ⟨by omega, n1, fun y hy => g3 y (List.mem_append_left _ hy), c1⟩, List.mem_map.mpr ⟨x, List.mem_filter.mpr ⟨List.mem_range.mpr (g3 x (by simp)), ?_⟩, rfl⟩⟩
      rw [Bool.and_eq_true, Bool.not_eq_true', decide_eq_false_iff_not, Bool.or_eq_true, decide_eq_true_iff]
      exact ⟨fun h => n3 x h x (by simp) rfl, c2⟩
theorem snoc_lt {x y : Nat} : ∀ {a b : List Nat}, a.length = b.length → a < b → a ++ [x] < b ++ [y]
  | [], [], _, h => absurd h (List.not_lt_nil _)
  | a :: as, b :: bs, hl, h => by
    rw [List.cons_append, List.cons_append, List.cons_lt_cons_iff]
    rcases List.cons_lt_cons_iff.mp h with h | ⟨h, h'⟩
    · exact .inl h
    · exact .inr ⟨h, snoc_lt (by simpa using hl) h'⟩
theorem snoc_lt' {x y : Nat} (h : x < y) : ∀ {a : List Nat}, a ++ [x] < a ++ [y]
  | [] => by rw [List.nil_append, List.nil_append, List.cons_lt_cons_iff]; exact .inl h
  | a :: as => by rw [List.cons_append, List.cons_append, List.cons_lt_cons_iff]; exact .inr ⟨rfl, snoc_lt' h⟩
theorem rows_sorted : ∀ k, (rowsB B n k).Pairwise (· < ·)
  | 0 => List.pairwise_singleton _ _
  | k + 1 => by
    unfold rowsB
    rw [List.pairwise_flatMap]
    refine ⟨fun r _ => ?_, ?_⟩
    · unfold extB
      rw [List.pairwise_map]
      exact (List.pairwise_lt_range.filter _).imp fun h => snoc_lt' h
    · refine (rows_sorted k).imp_of_mem fun {a b} ha hb hab x hx y hy => ?_
      obtain ⟨u, _, rfl⟩ := List.mem_map.mp hx
      obtain ⟨v, _, rfl⟩ := List.mem_map.mp hy
      exact snoc_lt (by rw [(rows_mem.mp ha).1, (rows_mem.mp hb).1]) hab
def clo (B : Nat → Nat → Bool) (r : List Nat) : Bool := B (lastD r) (r.headD 0)
/-- a closed row of k + 1 dice -/
theorem clo_isM {k : Nat} {r : List Nat} (h : r ∈ rowsB B n (k + 1)) (hc : clo B r = true) : ∃ s m, r.headD 0 = s ∧ s < n ∧ m ≤ k ∧ IsM B n s m := by
  obtain ⟨g1, g2, g3, g4⟩ := rows_mem.mp h
  match r, g1 with
  | s :: l, g1 =>
    have hs := g3 s (List.mem_cons_self ..)
    have hk : l.length = k := by simpa using g1
    have hc' : B (lastD (s :: l)) s = true := hc
    have : ∃ o, o < n ∧ B s o = true ∧ seen B n s k o = true := by
      cases l with
      | nil => exact ⟨s, hs, hc', by rw [← hk]; exact decide_eq_true rfl⟩
      | cons y l =>
        refine ⟨y, g3 y (by simp), g4.1, ?_⟩
        rw [← hk]
        exact back_seen hs l y (fun z hz => g3 z (by simp [hz])) g4.2 hc'
    obtain ⟨o, o1, o2, o3⟩ := this
    obtain ⟨d, d1, d2⟩ := seen_lev o3
    obtain ⟨m, m1, m2⟩ := isM_of d ⟨o, o1, o2, d2⟩
    exact ⟨s, m, rfl, hs, by omega, m2⟩
theorem ring_row {m : Nat} (hs : s < n) (hM : IsM B n s m) : s :: gr B n s m s ∈ rowsB B n (m + 1) ∧ clo B (s :: gr B n s m s) = true := by
  obtain ⟨o, h1, h2, h3⟩ := hM.ex
  have hg : m = 0 ∨ Go B n s m s := .inr ⟨o, h1, h2, h3⟩
  refine ⟨rows_mem.mpr ⟨by rw [List.length_cons, gr_len], ?_, fun x hx => ?_, gr_chn m s hg⟩, ?_⟩
  · rw [List.nodup_cons]
    refine ⟨fun hx => ?_, gr_nodup m s hg⟩
    obtain ⟨_, d, d1, _, d3⟩ := gr_mem m s hg s hx
    have := lev_uniq lev_zero_s d3
    omega
  · rcases List.mem_cons.mp hx with rfl | hx
    · exact hs
    · exact (gr_mem m s hg x hx).1
  · show B (lastD (s :: gr B n s m s)) s = true
    refine gr_close m s ?_
    cases m with
    | zero =>
      have : o = s := of_decide_eq_true h3
      rw [this] at h2
      exact .inl ⟨rfl, h2⟩
    | succ m => exact .inr ⟨⟨o, h1, h2, h3⟩, by omega⟩
/-- the first closed row of the fewest dice -/
theorem first_best {m : Nat} {r : List Nat} (hno : ∀ j, j < m → ∀ r ∈ rowsB B n (j + 1), clo B r = false) (hf : (rowsB B n (m + 1)).find? (clo B) = some r) : Best B n (some r) := by
  have hc := List.find?_some hf
  have hm := List.mem_of_find?_eq_some hf
  obtain ⟨s, m', e, hs, h1, hM⟩ := clo_isM hm hc
  have low : ∀ s', s' < n → ∀ m'', IsM B n s' m'' → m ≤ m'' := fun s' hs' m'' hM' => by
    by_cases c : m ≤ m''
    · exact c
    · obtain ⟨r1, r2⟩ := ring_row hs' hM'
      rw [hno m'' (by omega) _ r1] at r2
      cases r2
  obtain rfl : m' = m := by have := low s hs m' hM; omega
  obtain ⟨pre, post, ep, hpre⟩ := List.find?_eq_some_iff_append.mp hf |>.2
  have hsort := rows_sorted (B := B) (n := n) (m' + 1)
  rw [ep, List.pairwise_append] at hsort
  obtain ⟨_, p2, p3⟩ := hsort
  have least : ∀ r', r' ∈ rowsB B n (m' + 1) → clo B r' = true → ¬ r' < r := fun r' h1 h2 h3 => by
    rw [ep] at h1
    rcases List.mem_append.mp h1 with h1 | h1
    · have := hpre r' h1
      rw [h2] at this
      cases this
    · rcases List.mem_cons.mp h1 with rfl | h1
      · exact List.lt_irrefl _ h3
      · exact List.lt_asymm ((List.pairwise_cons.mp p2).1 r' h1) h3
  obtain ⟨g1, g2, g3, g4⟩ := rows_mem.mp hm
  match r, g1, e with
  | x :: l, g1, e =>
    obtain rfl : x = s := e
    have hlow := gr_le hs m' x l (by simpa using g1) (fun y hy => g3 y (List.mem_cons_of_mem _ hy)) g4 hc hM.le
    obtain ⟨r1, r2⟩ := ring_row hs hM
    have hge := least _ r1 r2
    rw [List.cons_lt_cons_iff] at hge
    have el : l = gr B n x m' x := by
      have a : ¬ gr B n x m' x < l := fun z => hge (.inr ⟨rfl, z⟩)
      exact List.le_antisymm a hlow
    rw [el]
    refine .some hs hM fun s' hs' m'' hM' => ⟨low s' hs' m'' hM', fun e => ?_⟩
    subst e
    obtain ⟨q1, q2⟩ := ring_row hs' hM'
    have := least _ q1 q2
    rw [List.cons_lt_cons_iff] at this
    by_cases w : x ≤ s'
    · exact w
    · exact absurd (.inl (by omega)) this
theorem first_none (hno : ∀ j, j < n → ∀ r ∈ rowsB B n (j + 1), clo B r = false) : Best B n none := .none fun s hs m hM => by
  obtain ⟨r1, r2⟩ := ring_row hs hM
  rw [hno m (isM_lt hs hM) _ r1] at r2
  cases r2
/-- the ring by the steps between all pairs -/
theorem steps_none (hn : n ≤ 90) (h : ∀ x, x < n → wk B n x x = 99) : Best B n none := .none fun s hs m hM => by
  have := wk_isM hn hs hM
  have := isM_lt hs hM
  rw [h s hs] at *
  omega
theorem steps_some (hn : n ≤ 90) (hs : s < n) {m : Nat} (hw : wk B n s s = m + 1) (h98 : m + 1 < 99) (hle : ∀ x, x < n → m + 1 ≤ wk B n x x) (hf : ∀ x, x < n → wk B n x x = m + 1 → s ≤ x) : IsM B n s m ∧ Best B n (some (s :: gr B n s m s)) := by
  have hM : IsM B n s m := by
    by_cases c : ∃ m', IsM B n s m'
    · obtain ⟨m', hM⟩ := c
      have := wk_isM hn hs hM
      rw [hw] at this
      rw [show m = m' by omega]
      exact hM
    · have := wk_noM hs fun m' h => c ⟨m', h⟩
      omega
  refine ⟨hM, .some hs hM fun s' hs' m' hM' => ?_⟩
  have e := wk_isM hn hs' hM'
  have := hle s' hs'
  exact ⟨by omega, fun e2 => hf s' hs' (by omega)⟩
end
end Py
namespace Py
open PySem D
local macro_rules
  | `(tactic| walk_at "w") => `(tactic| with_reducible first
    | refine seq_nx ?_ | refine seq_rt ?_ | refine seq_bk ?_ | refine seq_ct ?_ | refine wp_seq ?_ | refine wp_asg ?_ | refine wp_next ?_ | refine wp_ret ?_ | refine wp_retN ?_ | refine wp_brk ?_ | refine wp_cont ?_ | refine wp_expr ?_ | refine wp_op ?_ | refine wp_un ?_ | refine wp_c ?_
    | refine unB ?_ | refine wp_truB ?_ | refine wp_and ?_ | refine wp_or ?_ | refine wp_not ?_ | refine wp_ifE ?_ | refine wp_tup ?_ | refine wp_lst ?_ | refine wp_lcons ?_ | refine wp_lnil ?_ | refine frzV ?_ | refine frzN ?_ | refine wp_frz ?_ | refine wp_sl ?_ | refine wp_onone ?_ | refine wp_osome ?_
    | refine wp_anil ?_ | refine wp_av ?_ | refine wp_andV ?_ | refine wp_orV ?_ | refine wp_notV ?_ | refine wp_fgtR ?_ | refine turn_nx ?_ | refine turn_rt ?_ | refine turn_bk ?_ | refine turn_ct ?_ | refine fgt_rt ?_ | refine wp_par ?_ | refine wp_chain ?_ | refine wp_seqI ?_)
local macro_rules
  | `(tactic| walk_at "put") => `(tactic| focus ((repeat apply PutR.s); first | exact PutR.z rfl | exact PutR.z (by assumption)))
local macro_rules
  | `(tactic| walk_at "set") => `(tactic| focus ((repeat apply SetR.s); first | exact SetR.o | exact SetR.r))
local macro_rules
  | `(tactic| walk_at "fgt") => `(tactic| focus (repeat first | exact FgtsR.nil | exact FgtR.k | exact FgtR.z rfl | exact FgtR.z (by assumption) | apply FgtR.s | apply FgtsR.cons))
local macro_rules
  | `(tactic| walk_at "x") => `(tactic| first
    | ((with_reducible apply wp_varV); (focus exact rfl)) | ((with_reducible apply wp_varO); (focus exact rfl)) | ((with_reducible apply wp_varR); (focus exact rfl))
    | ((with_reducible apply opq); (focus exact rfl); (focus exact rfl); (focus (first | exact ev_eqI | exact ev_neI | exact ev_ltI | exact ev_leI | exact ev_gtI | exact ev_geI | exact ev_in2 | exact ev_in2n | exact ev_in4n | exact ev_isT | exact ev_isF | exact ev_isnT | exact ev_isnF | exact ev_eqQ0 | exact ev_eqQ1 | exact ev_eqQ | exact ev_neQ | exact ev_strT | exact ev_strF n1 | exact ev_strF n2 | exact ev_strF n3 | exact ev_strF n4 | exact ev_strF n5 | exact ev_strF n6 | exact rfl)))
    | ((with_reducible apply unq); (focus exact rfl); (focus exact rfl))
    | ((with_reducible first | apply putqV | apply putqN); walk_at "put")
    | ((with_reducible apply putqB); (focus exact rfl); (focus exact rfl); walk_at "put"; walk_at "put")
    | ((with_reducible apply putq2); walk_at "put"; walk_at "put")
    | ((with_reducible apply parq); walk_at "put"; walk_at "put")
    | ((with_reducible apply wp_callR); (focus (repeat first | exact RefsR.nil | apply RefsR.v | apply RefsR.r)); (focus decide))
    | ((with_reducible apply wp_ar); (focus exact rfl))
    | ((with_reducible apply fin_rt); (focus exact rfl); (focus exact rfl))
    | ((with_reducible apply fin_nx); (focus exact rfl))
    | ((with_reducible apply wp_appendR); (focus exact rfl))
    | (with_reducible refine ⟨_, rfl, ?_⟩) | (with_reducible refine ⟨_, .inl rfl, ?_⟩) | (with_reducible refine ⟨_, .inr (.inl rfl), ?_⟩) | (with_reducible refine ⟨_, .inr (.inr rfl), ?_⟩)
    | (with_reducible apply callq0) | ((with_reducible apply frzB); (focus exact rfl); (focus exact rfl); walk_at "put")
    | ((with_reducible apply callq1); walk_at "set")
    | ((with_reducible apply callq2); walk_at "set"; walk_at "set")
    | ((with_reducible first | apply fgt_nx | apply fgt_bk | apply fgt_ct); walk_at "fgt")
    | ((with_reducible apply brT); (focus exact rfl)) | ((with_reducible apply brF); (focus exact rfl)))
local macro_rules
  | `(tactic| walk_at "r") => `(tactic| repeat first | walk_at "w" | walk_at "x")
local macro_rules
  | `(tactic| walk_at "ri") => `(tactic| repeat first | walk_at "w" | walk_at "x" | (with_reducible refine wp_if ?_))
local macro_rules
  | `(tactic| walk_at "app") => `(tactic| ((with_reducible apply appq); (focus exact rfl); (focus ((try simp only [List.length_map, List.length_nil, List.length_cons, List.length_append]); unfold line; omega)); walk_at "set"))
local macro_rules
  | `(tactic| walk_at "mul") => `(tactic| ((refine opq rfl rfl (ev_mul ?_) ?_); (focus (apply mulT <;> omega))))
local macro_rules
  | `(tactic| walk_at "rm") => `(tactic| repeat first | walk_at "w" | walk_at "x" | walk_at "mul")
local macro_rules
  | `(tactic| walk_at "len") => `(tactic| (refine And.intro ?_ ?_; (focus (simp [line]; done))))
local macro_rules
  | `(tactic| walk_at "rl") => `(tactic| repeat first | walk_at "w" | walk_at "x" | walk_at "len")
local macro_rules
  | `(tactic| walk_at "ril") => `(tactic| repeat first | walk_at "w" | walk_at "x" | walk_at "len" | (with_reducible refine wp_if ?_))
/-! QRc: which die beats which. -/
def mrV (xs ys : List Int) : Nat := (xs.map fun x => ys.countP fun y => decide (y < x)).sum
def lsV (xs ys : List Int) : Nat := (xs.map fun x => ys.countP fun y => decide (x < y)).sum
theorem mrV_cons (x : Int) (xs ys : List Int) : mrV (x :: xs) ys = ys.countP (fun y => decide (y < x)) + mrV xs ys := by simp [mrV]
theorem lsV_cons (x : Int) (xs ys : List Int) : lsV (x :: xs) ys = ys.countP (fun y => decide (x < y)) + lsV xs ys := by simp [lsV]
theorem mrV_le (xs ys : List Int) : mrV xs ys ≤ xs.length * ys.length := by
  induction xs with
  | nil => simp [mrV]
  | cons x xs ih =>
    rw [mrV_cons, List.length_cons, Nat.add_mul]
    have := List.countP_le_length (p := fun y => decide (y < x)) (l := ys)
    omega
theorem lsV_le (xs ys : List Int) : lsV xs ys ≤ xs.length * ys.length := by
  induction xs with
  | nil => simp [lsV]
  | cons x xs ih =>
    rw [lsV_cons, List.length_cons, Nat.add_mul]
    have := List.countP_le_length (p := fun y => decide (x < y)) (l := ys)
    omega
def btV (xs ys : List Int) : Bool := decide (lsV xs ys < mrV xs ys)
section
variable {xs ys : List Int} {Q : R → List Ob → Prop} {dice : List (List Int)}
theorem of_beats (hx2 : xs.length ≤ 24) (hy2 : ys.length ≤ 24) (k : Q (.val (.bool (btV xs ys))) []) : Ret d_beats [.val (tupI xs), .val (tupI ys)] Q := by
  refine ret_mkR (by repeat constructor) ?_
  unfold b_beats
  walk_at "r"
  refine wp_lc2 PyData.int (fun done acc ρ => acc.length = mrV done ys ∧ done.length ≤ xs.length ∧ ∃ u v, isRef u = false ∧ isRef v = false ∧ ρ = [some (.val (tupI xs)), some (.val (tupI ys)), none, u, v]) ?_
  unfold tupI
  walk_at "r"
  refine ⟨by unfold line; omega, ⟨rfl, by simp, none, none, rfl, rfl, rfl⟩, ?_, ?_⟩
  · rintro done y rest acc _ e ⟨hl, hd, u, v, hu, hv, rfl⟩
    refine lc2qY rfl ?_
    dsimp only [wipe, set_s, set_z]
    unfold i3_beats
    walk_at "r"
    refine inq PyData.int (fun done2 acc2 ρ => acc2.length = done2.countP (fun z => decide (z < y)) ∧ ∃ v, isRef v = false ∧ ρ = [some (.val (tupI xs)), some (.val (tupI ys)), none, some (.val (.int y)), v]) ys (by unfold line; omega) ⟨rfl, none, rfl, rfl⟩ ?_ ?_
    · rintro done2 z rest2 acc2 _ e2 ⟨h2, v, hv, rfl⟩
      unfold LcQ
      dsimp only [wipe, set_s, set_z]
      unfold t1_beats e2_beats
      walk_at "r"
      refine branchD (fun h => ?_) fun h => ?_
      · walk_at "r"
        exact ⟨by simp [h2, h], _, rfl, rfl⟩
      · exact ⟨by simp [h2, h], _, rfl, rfl⟩
    · rintro acc2 _ ⟨h2, v, hv, rfl⟩
      refine ⟨?_, ?_, _, v, rfl, hv, rfl⟩
      · rw [List.length_append, hl, h2]
        simp [mrV]
      · rw [e]; simp
  rintro acc _ ⟨hl, _, u, v, hu, hv, rfl⟩
  have hm := mrV_le xs ys
  have hmm : xs.length * ys.length ≤ 24 * 24 := Nat.mul_le_mul hx2 hy2
  refine ⟨by rw [hl]; unfold line; omega, ?_⟩
  dsimp only [back, set_s, set_z, get_s, get_z]
  walk_at "r"
  rw [hl]
  refine wp_lc2 PyData.int (fun done acc ρ => acc.length = lsV done ys ∧ done.length ≤ xs.length ∧ ∃ u v, isRef u = false ∧ isRef v = false ∧ ρ = [some (.val (tupI xs)), some (.val (tupI ys)), some (.val (.int (mrV xs ys))), u, v]) ?_
  unfold tupI
  walk_at "r"
  refine ⟨by unfold line; omega, ⟨rfl, by simp, none, none, rfl, rfl, rfl⟩, ?_, ?_⟩
  · rintro done y rest acc _ e ⟨hl, hd, u, v, hu, hv, rfl⟩
    refine lc2qY rfl ?_
    dsimp only [wipe, set_s, set_z]
    unfold i6_beats
    walk_at "r"
    refine inq PyData.int (fun done2 acc2 ρ => acc2.length = done2.countP (fun z => decide (y < z)) ∧ ∃ v, isRef v = false ∧ ρ = [some (.val (tupI xs)), some (.val (tupI ys)), some (.val (.int (mrV xs ys))), some (.val (.int y)), v]) ys (by unfold line; omega) ⟨rfl, none, rfl, rfl⟩ ?_ ?_
    · rintro done2 z rest2 acc2 _ e2 ⟨h2, v, hv, rfl⟩
      unfold LcQ
      dsimp only [wipe, set_s, set_z]
      unfold t4_beats e5_beats
      walk_at "r"
      refine branchD (fun h => ?_) fun h => ?_
      · walk_at "r"
        exact ⟨by simp [h2, h], _, rfl, rfl⟩
      · exact ⟨by simp [h2, h], _, rfl, rfl⟩
    · rintro acc2 _ ⟨h2, v, hv, rfl⟩
      refine ⟨?_, ?_, _, v, rfl, hv, rfl⟩
      · rw [List.length_append, hl, h2]
        simp [lsV]
      · rw [e]; simp
  rintro acc _ ⟨hl, _, u, v, hu, hv, rfl⟩
  have hls := lsV_le xs ys
  refine ⟨by rw [hl]; unfold line; omega, ?_⟩
  dsimp only [back, set_s, set_z, get_s, get_z]
  walk_at "r"
  rw [hl]
  have e : decide (((lsV xs ys : Nat) : Int) < ((mrV xs ys : Nat) : Int)) = btV xs ys := by
    unfold btV
    exact decide_eq_decide.mpr (by omega)
  first
    | (rw [e]; exact k)
    | (refine opq rfl rfl ev_gtI ?_; walk_at "r"; rw [e]; exact k)
end
end Py
namespace Py
open PySem D
local macro_rules
  | `(tactic| walk_at "w") => `(tactic| with_reducible first
    | refine seq_nx ?_ | refine seq_rt ?_ | refine seq_bk ?_ | refine seq_ct ?_ | refine wp_seq ?_ | refine wp_asg ?_ | refine wp_next ?_ | refine wp_ret ?_ | refine wp_retN ?_ | refine wp_brk ?_ | refine wp_cont ?_ | refine wp_expr ?_ | refine wp_op ?_ | refine wp_un ?_ | refine wp_c ?_
    | refine unB ?_ | refine wp_truB ?_ | refine wp_and ?_ | refine wp_or ?_ | refine wp_not ?_ | refine wp_ifE ?_ | refine wp_tup ?_ | refine wp_lst ?_ | refine wp_lcons ?_ | refine wp_lnil ?_ | refine frzV ?_ | refine frzN ?_ | refine wp_frz ?_ | refine wp_sl ?_ | refine wp_onone ?_ | refine wp_osome ?_
    | refine wp_anil ?_ | refine wp_av ?_ | refine wp_andV ?_ | refine wp_orV ?_ | refine wp_notV ?_ | refine wp_fgtR ?_ | refine turn_nx ?_ | refine turn_rt ?_ | refine turn_bk ?_ | refine turn_ct ?_ | refine fgt_rt ?_ | refine wp_par ?_ | refine wp_chain ?_ | refine wp_seqI ?_)
local macro_rules
  | `(tactic| walk_at "put") => `(tactic| focus ((repeat apply PutR.s); first | exact PutR.z rfl | exact PutR.z (by assumption)))
local macro_rules
  | `(tactic| walk_at "set") => `(tactic| focus ((repeat apply SetR.s); first | exact SetR.o | exact SetR.r))
local macro_rules
  | `(tactic| walk_at "fgt") => `(tactic| focus (repeat first | exact FgtsR.nil | exact FgtR.k | exact FgtR.z rfl | exact FgtR.z (by assumption) | apply FgtR.s | apply FgtsR.cons))
local macro_rules
  | `(tactic| walk_at "x") => `(tactic| first
    | ((with_reducible apply wp_varV); (focus exact rfl)) | ((with_reducible apply wp_varO); (focus exact rfl)) | ((with_reducible apply wp_varR); (focus exact rfl))
    | ((with_reducible apply opq); (focus exact rfl); (focus exact rfl); (focus (first | exact ev_eqI | exact ev_neI | exact ev_ltI | exact ev_leI | exact ev_gtI | exact ev_geI | exact ev_in2 | exact ev_in2n | exact ev_in4n | exact ev_isT | exact ev_isF | exact ev_isnT | exact ev_isnF | exact ev_eqQ0 | exact ev_eqQ1 | exact ev_eqQ | exact ev_neQ | exact ev_strT | exact ev_strF n1 | exact ev_strF n2 | exact ev_strF n3 | exact ev_strF n4 | exact ev_strF n5 | exact ev_strF n6 | exact rfl)))
    | ((with_reducible apply unq); (focus exact rfl); (focus exact rfl))
    | ((with_reducible first | apply putqV | apply putqN); walk_at "put")
    | ((with_reducible apply putqB); (focus exact rfl); (focus exact rfl); walk_at "put"; walk_at "put")
    | ((with_reducible apply putq2); walk_at "put"; walk_at "put")
    | ((with_reducible apply parq); walk_at "put"; walk_at "put")
    | ((with_reducible apply wp_callR); (focus (repeat first | exact RefsR.nil | apply RefsR.v | apply RefsR.r)); (focus decide))
    | ((with_reducible apply wp_ar); (focus exact rfl))
    | ((with_reducible apply fin_rt); (focus exact rfl); (focus exact rfl))
    | ((with_reducible apply fin_nx); (focus exact rfl))
    | ((with_reducible apply wp_appendR); (focus exact rfl))
    | (with_reducible refine ⟨_, rfl, ?_⟩) | (with_reducible refine ⟨_, .inl rfl, ?_⟩) | (with_reducible refine ⟨_, .inr (.inl rfl), ?_⟩) | (with_reducible refine ⟨_, .inr (.inr rfl), ?_⟩)
    | (with_reducible apply callq0) | ((with_reducible apply frzB); (focus exact rfl); (focus exact rfl); walk_at "put")
    | ((with_reducible apply callq1); walk_at "set")
    | ((with_reducible apply callq2); walk_at "set"; walk_at "set")
    | ((with_reducible first | apply fgt_nx | apply fgt_bk | apply fgt_ct); walk_at "fgt")
    | ((with_reducible apply brT); (focus exact rfl)) | ((with_reducible apply brF); (focus exact rfl)))
local macro_rules
  | `(tactic| walk_at "r") => `(tactic| repeat first | walk_at "w" | walk_at "x")
local macro_rules
  | `(tactic| walk_at "ri") => `(tactic| repeat first | walk_at "w" | walk_at "x" | (with_reducible refine wp_if ?_))
local macro_rules
  | `(tactic| walk_at "app") => `(tactic| ((with_reducible apply appq); (focus exact rfl); (focus ((try simp only [List.length_map, List.length_nil, List.length_cons, List.length_append]); unfold line; omega)); walk_at "set"))
local macro_rules
  | `(tactic| walk_at "mul") => `(tactic| ((refine opq rfl rfl (ev_mul ?_) ?_); (focus (apply mulT <;> omega))))
local macro_rules
  | `(tactic| walk_at "rm") => `(tactic| repeat first | walk_at "w" | walk_at "x" | walk_at "mul")
local macro_rules
  | `(tactic| walk_at "len") => `(tactic| (refine And.intro ?_ ?_; (focus (simp [line]; done))))
local macro_rules
  | `(tactic| walk_at "rl") => `(tactic| repeat first | walk_at "w" | walk_at "x" | walk_at "len")
local macro_rules
  | `(tactic| walk_at "ril") => `(tactic| repeat first | walk_at "w" | walk_at "x" | walk_at "len" | (with_reducible refine wp_if ?_))
/-! QRd: the law's table of which die beats which. -/
def diceV (dice : List (List Int)) : PV := .tuple (dice.map tupI)
def bD (dice : List (List Int)) (p q : Nat) : Bool := btV (dice.getD p []) (dice.getD q [])
def rowB (B : Nat → Nat → Bool) (n p : Nat) : List Nat := (List.range n).filter (B p)
def listN (s : List Nat) : PV := .list (s.map natI)
def tabB (B : Nat → Nat → Bool) (n : Nat) : PV := .list ((List.range n).map fun p => listN (rowB B n p))
/-- at most 8 dice of at most 24 faces -/
structure Dcs (dice : List (List Int)) : Prop where
  len : dice.length ≤ 8
  faces : ∀ xs ∈ dice, xs.length ≤ 24
section
variable {Q : R → List Ob → Prop} {dice : List (List Int)} {xs ys : List Int}
theorem Dcs.get (h : Dcs dice) (p : Nat) : (dice.getD p []).length ≤ 24 := by
  rw [List.getD_eq_getElem?_getD]
  cases e : dice[p]? with
  | none => exact Nat.zero_le _
  | some x =>
    obtain ⟨i, e2⟩ := List.getElem?_eq_some_iff.mp e
    exact h.faces x (by rw [← e2]; exact List.getElem_mem i)
theorem ix_dice {p : Nat} (hp : p < dice.length) : fIx (.pv (diceV dice)) (.pv (natI p)) = some (.val (tupI (dice.getD p []))) := ev_ix (a := (p : Int)) (.inl rfl) (atI_nat (by rw [List.getElem?_map, List.getElem?_eq_getElem hp, List.getD_eq_getElem?_getD, List.getElem?_eq_getElem hp]; rfl))
theorem ahead_loop {v0 v1 v2 v3 v4 : Option Sl} {p : Nat} (h0 : v0 = some (.val (diceV dice))) (h2 : v2 = some (.val (tupI xs))) (h4 : v4 = some (.val (natI p))) (hp : p < dice.length) (hx : xs.length ≤ 24) (hy : (dice.getD p []).length ≤ 24) {QS : Fl → Env → Prop}
    (q : QS .nx [v0, v1, v2, v3, v4, some (.val (.int ((mrV xs (dice.getD p []) : Int) - (lsV xs (dice.getD p []) : Int)))), none, none]) :
    Wp (sFor (iSeq (mFrz (mVar 2))) (Py.gName 6) l2_law_table) [v0, v1, v2, v3, v4, some (.val (.int 0)), none, none] QS := by
  have hln : (line : Nat) = 16777216 := rfl
  subst h0 h2 h4
  have hix := ix_dice (dice := dice) hp
  generalize dice.getD p [] = ys at *
  refine wp_for (wp_seqI ?_)
  unfold tupI
  walk_at "rl"
  refine wp_loop PyData.int (fun done ρ => ρ = [some (.val (diceV dice)), v1, some (.val (tupI xs)), v3, some (.val (natI p)), some (.val (.int ((mrV done ys : Int) - (lsV done ys : Int)))), none, none]) xs rfl ?_ ?_
  · rintro done x rest _ e rfl
    unfold l2_law_table
    walk_at "rl"
    refine wp_for (wp_seqI ?_)
    walk_at "rl"
    refine opq rfl rfl hix ?_
    unfold tupI
    walk_at "rl"
    refine wp_loop PyData.int (fun done2 ρ => ρ = [some (.val (diceV dice)), v1, some (.val (tupI xs)), v3, some (.val (natI p)), some (.val (.int ((mrV done ys : Int) - (lsV done ys : Int) + ((done2.countP (fun z => decide (z < x)) : Nat) : Int) - ((done2.countP (fun z => decide (x < z)) : Nat) : Int)))), some (.val (.int x)), none]) ys (by simp [tupI]) ?_ ?_
    · rintro done2 y rest2 _ e2 rfl
      unfold l1_law_table
      walk_at "rl"
      rw [List.countP_append, List.countP_append, List.countP_singleton, List.countP_singleton]
      have e1 : (((done2.countP (fun z => decide (z < x)) + if decide (y < x) = true then 1 else 0 : Nat) : Int)) = ((done2.countP (fun z => decide (z < x)) : Nat) : Int) + (if decide (y < x) = true then 1 else 0 : Int) := by split <;> omega
      have e2 : (((done2.countP (fun z => decide (x < z)) + if decide (x < y) = true then 1 else 0 : Nat) : Int)) = ((done2.countP (fun z => decide (x < z)) : Nat) : Int) + (if decide (x < y) = true then 1 else 0 : Int) := by split <;> omega
      rw [e1, e2]
      have e3 : ∀ a b c d e f : Int, a - b + (c + e) - (d + f) = a - b + c - d + e - f := fun a b c d e f => by omega
      rw [e3]
      try rfl
    · rintro _ rfl
      walk_at "rl"
      have e1 : mrV (done ++ [x]) ys = mrV done ys + ys.countP (fun z => decide (z < x)) := by simp [mrV]
      have e2 : lsV (done ++ [x]) ys = lsV done ys + ys.countP (fun z => decide (x < z)) := by simp [lsV]
      rw [e1, e2]
      have e3 : ∀ a b c d : Int, a + c - (b + d) = a - b + c - d := fun a b c d => by omega
      rw [Int.natCast_add, Int.natCast_add, e3]
      try rfl
  · rintro _ rfl
    exact q
theorem of_table (hd : Dcs dice) (q : Q (.new (.lst ((List.range dice.length).map fun p => listN (rowB (bD dice) dice.length p)))) []) : Ret d_law_table [.val (diceV dice)] Q := by
  have hln : (line : Nat) = 16777216 := rfl
  have hl := hd.len
  refine ret_mkR (by repeat constructor) ?_
  unfold b_law_table
  walk_at "rl"
  refine wp_forL (fun i ρ => ρ = [some (.val (diceV dice)), some (.own (.lst ((List.range i).map fun p => listN (rowB (bD dice) dice.length p)))), none, none, none, none, none, none]) (dice.map tupI) ?_ ?_ ?_
  · walk_at "rl"
    first | rfl | exact ⟨.inr (.inl rfl), rfl⟩
  · rintro i hi _ rfl
    rw [List.length_map] at hi
    have e : (dice.map tupI)[i]'(by rw [List.length_map]; exact hi) = tupI (dice.getD i []) := by
      rw [List.getD_eq_getElem?_getD, List.getElem?_eq_getElem hi]
      simp
    rw [e]
    unfold l4_law_table
    walk_at "rl"
    refine wp_forN (fun j ρ => ρ = [some (.val (diceV dice)), some (.own (.lst ((List.range i).map fun p => listN (rowB (bD dice) dice.length p)))), some (.val (tupI (dice.getD i []))), some (.own (.lst (((List.range j).filter (bD dice i)).map natI))), none, none, none, none]) dice.length ?_ ?_ ?_
    · walk_at "rl"
      exact ⟨by rw [List.length_map]; rfl, by omega, rfl⟩
    · rintro j _ hj rfl
      have hfl := List.length_filter_le (bD dice i) (List.range j)
      rw [List.length_range] at hfl
      unfold l3_law_table
      walk_at "rl"
      refine ahead_loop (p := j) rfl rfl rfl hj (hd.get i) (hd.get j) ?_
      walk_at "ril"
      rw [List.range_succ, List.filter_append, List.map_append]
      have hb : decide ((0 : Int) < (mrV (dice.getD i []) (dice.getD j []) : Int) - (lsV (dice.getD i []) (dice.getD j []) : Int)) = bD dice i j := by
        unfold bD btV
        exact decide_eq_decide.mpr (by omega)
      first
        | refine ⟨fun h => ?_, fun h => ?_⟩
        | (refine opq rfl rfl ev_gtI ?_; walk_at "ril"; refine ⟨fun h => ?_, fun h => ?_⟩)
      · rw [hb] at h
        walk_at "ril"
        apply appq (xs := ((List.range j).filter (bD dice i)).map natI) rfl (by rw [List.length_map]; omega)
        walk_at "set"
        walk_at "ril"
        rw [List.filter_cons, if_pos h, List.filter_nil, List.map_singleton]
        try rfl
      · rw [hb] at h
        walk_at "ril"
        rw [List.filter_cons, if_neg (by rw [h]; decide), List.filter_nil, List.map_nil, List.append_nil]
        try rfl
    · rintro _ rfl
      walk_at "rl"
      apply appq (xs := (List.range i).map fun p => listN (rowB (bD dice) dice.length p)) rfl (by rw [List.length_map, List.length_range]; omega)
      walk_at "set"
      walk_at "rl"
      rw [List.range_succ, List.map_append, List.map_singleton]
      try rfl
  · rintro _ rfl
    rw [List.length_map]
    walk_at "rl"
    exact q
end
end Py
namespace Py
open PySem D
local macro_rules
  | `(tactic| walk_at "w") => `(tactic| with_reducible first
    | refine seq_nx ?_ | refine seq_rt ?_ | refine seq_bk ?_ | refine seq_ct ?_ | refine wp_seq ?_ | refine wp_asg ?_ | refine wp_next ?_ | refine wp_ret ?_ | refine wp_retN ?_ | refine wp_brk ?_ | refine wp_cont ?_ | refine wp_expr ?_ | refine wp_op ?_ | refine wp_un ?_ | refine wp_c ?_
    | refine unB ?_ | refine wp_truB ?_ | refine wp_and ?_ | refine wp_or ?_ | refine wp_not ?_ | refine wp_ifE ?_ | refine wp_tup ?_ | refine wp_lst ?_ | refine wp_lcons ?_ | refine wp_lnil ?_ | refine frzV ?_ | refine frzN ?_ | refine wp_frz ?_ | refine wp_sl ?_ | refine wp_onone ?_ | refine wp_osome ?_
    | refine wp_anil ?_ | refine wp_av ?_ | refine wp_andV ?_ | refine wp_orV ?_ | refine wp_notV ?_ | refine wp_fgtR ?_ | refine turn_nx ?_ | refine turn_rt ?_ | refine turn_bk ?_ | refine turn_ct ?_ | refine fgt_rt ?_ | refine wp_par ?_ | refine wp_chain ?_ | refine wp_seqI ?_)
local macro_rules
  | `(tactic| walk_at "put") => `(tactic| focus ((repeat apply PutR.s); first | exact PutR.z rfl | exact PutR.z (by assumption)))
local macro_rules
  | `(tactic| walk_at "set") => `(tactic| focus ((repeat apply SetR.s); first | exact SetR.o | exact SetR.r))
local macro_rules
  | `(tactic| walk_at "fgt") => `(tactic| focus (repeat first | exact FgtsR.nil | exact FgtR.k | exact FgtR.z rfl | exact FgtR.z (by assumption) | apply FgtR.s | apply FgtsR.cons))
local macro_rules
  | `(tactic| walk_at "x") => `(tactic| first
    | ((with_reducible apply wp_varV); (focus exact rfl)) | ((with_reducible apply wp_varO); (focus exact rfl)) | ((with_reducible apply wp_varR); (focus exact rfl))
    | ((with_reducible apply opq); (focus exact rfl); (focus exact rfl); (focus (first | exact ev_eqI | exact ev_neI | exact ev_ltI | exact ev_leI | exact ev_gtI | exact ev_geI | exact ev_in2 | exact ev_in2n | exact ev_in4n | exact ev_isT | exact ev_isF | exact ev_isnT | exact ev_isnF | exact ev_eqQ0 | exact ev_eqQ1 | exact ev_eqQ | exact ev_neQ | exact ev_strT | exact ev_strF n1 | exact ev_strF n2 | exact ev_strF n3 | exact ev_strF n4 | exact ev_strF n5 | exact ev_strF n6 | exact rfl)))
    | ((with_reducible apply unq); (focus exact rfl); (focus exact rfl))
    | ((with_reducible first | apply putqV | apply putqN); walk_at "put")
    | ((with_reducible apply putqB); (focus exact rfl); (focus exact rfl); walk_at "put"; walk_at "put")
    | ((with_reducible apply putq2); walk_at "put"; walk_at "put")
    | ((with_reducible apply parq); walk_at "put"; walk_at "put")
    | ((with_reducible apply wp_callR); (focus (repeat first | exact RefsR.nil | apply RefsR.v | apply RefsR.r)); (focus decide))
    | ((with_reducible apply wp_ar); (focus exact rfl))
    | ((with_reducible apply fin_rt); (focus exact rfl); (focus exact rfl))
    | ((with_reducible apply fin_nx); (focus exact rfl))
    | ((with_reducible apply wp_appendR); (focus exact rfl))
    | (with_reducible refine ⟨_, rfl, ?_⟩) | (with_reducible refine ⟨_, .inl rfl, ?_⟩) | (with_reducible refine ⟨_, .inr (.inl rfl), ?_⟩) | (with_reducible refine ⟨_, .inr (.inr rfl), ?_⟩)
    | (with_reducible apply callq0) | ((with_reducible apply frzB); (focus exact rfl); (focus exact rfl); walk_at "put")
    | ((with_reducible apply callq1); walk_at "set")
    | ((with_reducible apply callq2); walk_at "set"; walk_at "set")
    | ((with_reducible first | apply fgt_nx | apply fgt_bk | apply fgt_ct); walk_at "fgt")
    | ((with_reducible apply brT); (focus exact rfl)) | ((with_reducible apply brF); (focus exact rfl)))
local macro_rules
  | `(tactic| walk_at "r") => `(tactic| repeat first | walk_at "w" | walk_at "x")
local macro_rules
  | `(tactic| walk_at "ri") => `(tactic| repeat first | walk_at "w" | walk_at "x" | (with_reducible refine wp_if ?_))
local macro_rules
  | `(tactic| walk_at "app") => `(tactic| ((with_reducible apply appq); (focus exact rfl); (focus ((try simp only [List.length_map, List.length_nil, List.length_cons, List.length_append]); unfold line; omega)); walk_at "set"))
local macro_rules
  | `(tactic| walk_at "mul") => `(tactic| ((refine opq rfl rfl (ev_mul ?_) ?_); (focus (apply mulT <;> omega))))
local macro_rules
  | `(tactic| walk_at "rm") => `(tactic| repeat first | walk_at "w" | walk_at "x" | walk_at "mul")
local macro_rules
  | `(tactic| walk_at "len") => `(tactic| (refine And.intro ?_ ?_; (focus (simp [line]; done))))
local macro_rules
  | `(tactic| walk_at "rl") => `(tactic| repeat first | walk_at "w" | walk_at "x" | walk_at "len")
local macro_rules
  | `(tactic| walk_at "ril") => `(tactic| repeat first | walk_at "w" | walk_at "x" | walk_at "len" | (with_reducible refine wp_if ?_))
/-! QRe: the search back to a die, walked. -/
theorem wp_lcRT {i : Nat} {a e : M} {t : MT} {ρ ρ1 : Env} {Q : R → Env → Prop} (n : Nat) (p : Nat → Bool) (hv : Nat → PV) (hi : i < ρ1.length) (hl : n ≤ line)
    (h : Wp a ρ fun x ρ' => look x ρ' = some (.pv (.int n)) ∧ ρ' = ρ1)
    (ht : ∀ k, k < n → Wp t (List.set ρ1 i (some (.val (natI k)))) fun b ρ3 => b = p k ∧ ρ3 = List.set ρ1 i (some (.val (natI k))))
    (step : ∀ k, k < n → Wp e (List.set ρ1 i (some (.val (natI k)))) fun r ρ3 => FrzQ r ρ3 fun v ρ4 => v = hv k ∧ ρ4 = List.set ρ1 i (some (.val (natI k))))
    (q : Q (.new (.lst (((List.range n).filter p).map hv))) ρ1) : Wp (mLc (iRng1 a) (gName i) [i] t e) ρ Q := by
  refine wp_lc natI (fun done acc ρ' => acc = ((List.range done.length).filter p).map hv ∧ ∃ u, ρ' = List.set ρ1 i u) ?_
  refine wp_rng1 (h.mono fun x ρ' ⟨h1, h2⟩ => ⟨n, h1, ⟨by exact_mod_cast hl, by omega⟩, ?_⟩)
  subst h2
  refine ⟨List.range n, by simp [natI], by simpa using hl, ⟨rfl, get ρ' i, ?_⟩, ?_, ?_⟩
  · unfold get
    rw [List.getElem?_eq_getElem hi]
    simp
  · rintro done y rest acc _ e3 ⟨rfl, u, rfl⟩
    obtain ⟨hy, hy2⟩ := range_eq e3
    rw [← hy]
    have hg : get (List.set ρ' i none) i = none := by
      unfold get
      rw [List.getElem?_set_self hi]
      rfl
    refine ⟨List.set ρ' i (some (.val (natI y))), ?_, (ht y hy2).mono fun b ρ3 ⟨e4, e5⟩ => ?_⟩
    · show put i (some (.val (natI y))) (List.set (List.set ρ' i u) i none) = _
      rw [set_set]
      unfold put
      rw [hg]
      show some ((List.set ρ' i none).set i (some (.val (natI y)))) = _
      rw [set_set]
    · subst e4 e5
      have er : ∀ q : Nat → Bool, (List.range (done ++ [y]).length).filter q = (List.range y).filter q ++ if q y then [y] else [] := fun q => by
        rw [List.length_append, List.length_singleton, ← hy, List.range_succ, List.filter_append]
        congr 1
        by_cases c : q y = true
        · simp [c]
        · simp [c]
      refine ⟨fun hb => (step y hy2).mono fun r ρ3 ⟨v, ρ4, e6, e7, e8⟩ => ⟨v, ρ4, e6, ?_, some (.val (natI y)), e8⟩, fun hb => ⟨?_, some (.val (natI y)), rfl⟩⟩
      · rw [er, if_pos hb, List.map_append, e7]
        rfl
      · rw [er, if_neg (by rw [hb]; decide)]
        simp
  · rintro acc _ ⟨rfl, u, rfl⟩
    have eb : back ρ' [i] (List.set ρ' i u) = ρ' := by
      show (List.set ρ' i u).set i (get ρ' i) = ρ'
      rw [set_set]
      unfold get
      rw [List.getElem?_eq_getElem hi]
      simp
    rw [eb]
    rw [List.length_range] at *
    exact q
theorem wp_lcLT {α : Type} {i : Nat} {a e : M} {t : MT} {ρ ρ1 : Env} {Q : R → Env → Prop} (f : α → PV) (xs : List α) (p : α → Bool) (hv : α → PV) (hi : i < ρ1.length) (hl : xs.length ≤ line)
    (h : Wp a ρ fun x ρ' => (x = .val (.list (xs.map f)) ∨ x = .val (.tuple (xs.map f)) ∨ x = .new (.lst (xs.map f))) ∧ ρ' = ρ1)
    (ht : ∀ y, y ∈ xs → Wp t (List.set ρ1 i (some (.val (f y)))) fun b ρ3 => b = p y ∧ ρ3 = List.set ρ1 i (some (.val (f y))))
    (step : ∀ y, y ∈ xs → Wp e (List.set ρ1 i (some (.val (f y)))) fun r ρ3 => FrzQ r ρ3 fun v ρ4 => v = hv y ∧ ρ4 = List.set ρ1 i (some (.val (f y))))
    (q : Q (.new (.lst ((xs.filter p).map hv))) ρ1) : Wp (mLc (iSeq a) (gName i) [i] t e) ρ Q := by
  refine wp_lc f (fun done acc ρ' => acc = (done.filter p).map hv ∧ ∃ u, ρ' = List.set ρ1 i u) ?_
  refine wp_seqI (h.mono fun x ρ' ⟨h1, h2⟩ => ⟨xs.map f, h1, ?_⟩)
  subst h2
  refine ⟨xs, rfl, hl, ⟨rfl, get ρ' i, ?_⟩, ?_, ?_⟩
  · unfold get
    rw [List.getElem?_eq_getElem hi]
    simp
  · rintro done y rest acc _ e3 ⟨rfl, u, rfl⟩
    have hy : y ∈ xs := by rw [e3]; simp
    have hs := step y hy
    have ht' := ht y hy
    have hg : get (List.set ρ' i none) i = none := by
      unfold get
      rw [List.getElem?_set_self hi]
      rfl
    refine ⟨List.set ρ' i (some (.val (f y))), ?_, ht'.mono fun b ρ3 ⟨e4, e5⟩ => ?_⟩
    · show put i (some (.val (f y))) (List.set (List.set ρ' i u) i none) = _
      rw [set_set]
      unfold put
      rw [hg]
      show some ((List.set ρ' i none).set i (some (.val (f y)))) = _
      rw [set_set]
    · subst e4 e5
      rw [List.filter_append, List.filter_cons, List.filter_nil]
      refine ⟨fun hb => hs.mono fun r ρ3 ⟨v, ρ4, e6, e7, e8⟩ => ⟨v, ρ4, e6, ?_, some (.val (f y)), e8⟩, fun hb => ⟨?_, some (.val (f y)), rfl⟩⟩
      · rw [if_pos hb, List.map_append, e7]
        rfl
      · rw [if_neg (by rw [hb]; decide)]
        simp
  · rintro acc _ ⟨rfl, u, rfl⟩
    have eb : back ρ' [i] (List.set ρ' i u) = ρ' := by
      show (List.set ρ' i u).set i (get ρ' i) = ρ'
      rw [set_set]
      unfold get
      rw [List.getElem?_eq_getElem hi]
      simp
    rw [eb]
    exact q
theorem wp_rngDg {a b : M} {ρ : Env} {QL : List PV → Env → Prop} (h : Wp a ρ fun x ρ1 => ∃ lo, look x ρ1 = some (.pv (.int lo)) ∧ Wp b ρ1 fun y ρ2 => ∃ hi, look y ρ2 = some (.pv (.int hi)) ∧ (-(2 ^ 61) ≤ lo ∧ lo < 2 ^ 61 ∧ -(2 ^ 61) ≤ hi ∧ hi < 2 ^ 61 ∧ (lo - hi) ≤ line) ∧ QL (rangeD lo (lo - hi).toNat) ρ2) : Wp (iRngD a b) ρ QL := by
  obtain ⟨x, ρ1, e1, lo, e2, y, ρ2, e3, hi, e4, hz, q⟩ := h
  exact ⟨rangeD lo (lo - hi).toNat, ρ2, by simp only [iRngD, e1, e2, e3, e4, intOf, Option.bind_some, if_pos hz], q⟩
theorem wp_forD {a b : M} {m : MG} {s : SM} {ρ : Env} {QS : Fl → Env → Prop} (P : Nat → Env → Prop) (n : Nat) (hn : n ≤ line)
    (h : Wp a ρ fun x ρ1 => look x ρ1 = some (.pv (.int (n : Int))) ∧ Wp b ρ1 fun y ρ2 => look y ρ2 = some (.pv (.int 0)) ∧ P 0 ρ2) (step : ∀ k ρ, k < n → P k ρ → PutQ m (.val (.int ((n - k : Nat) : Int))) ρ fun ρ1 => Wp s ρ1 (TurnQ (P (k + 1)) QS)) (hd : ∀ ρ, P n ρ → QS .nx ρ) : Wp (sFor (iRngD a b) m s) ρ QS := by
  have hln : (line : Nat) = 16777216 := rfl
  refine wp_for (wp_rngDg (h.mono fun x ρ1 ⟨e, h2⟩ => ⟨n, e, h2.mono fun y ρ2 ⟨e2, h0⟩ => ⟨0, e2, ⟨by omega, by omega, by omega, by omega, by omega⟩, ?_⟩⟩))
  rw [show ((n : Int) - 0).toNat = n by omega]
  have hl : (rangeD (n : Int) n).length = n := by unfold rangeD; simp
  refine wp_loopK P h0 (fun k hk ρ p => ?_) (fun ρ p => hd ρ (by rw [hl] at p; exact p))
  rw [hl] at hk
  have e : (rangeD (n : Int) n)[k]'(by rw [hl]; exact hk) = .int ((n - k : Nat) : Int) := by
    unfold rangeD
    simp
    omega
  rw [e]
  exact step k ρ hk p
def OwnL (xs : List PV) (v : Sl) : Prop := v = .own (.lst xs) ∨ v = .val (.list xs)
def oV : Option Nat → PV
  | none => .none
  | some d => .int (d : Int)
section
variable {Q : R → List Ob → Prop} {B : Nat → Nat → Bool} {n s : Nat}
theorem set_range {j : Nat} {f : Nat → PV} {v : PV} : ((List.range n).map f).set j v = (List.range n).map fun x => if x = j then v else f x := by
  refine List.ext_getElem (by simp) fun i h1 h2 => ?_
  rw [List.getElem_set]
  by_cases c : j = i
  · rw [if_pos c]
    simp [c]
  · rw [if_neg c]
    have : ¬ i = j := fun z => c z.symm
    simp [this]
theorem filter_one : ∀ {n : Nat}, s < n → (List.range n).filter (fun x => decide (x = s)) = [s]
  | n + 1, h => by
    rw [List.range_succ, List.filter_append]
    by_cases c : s = n
    · subst c
      have : (List.range s).filter (fun x => decide (x = s)) = [] := List.filter_eq_nil_iff.mpr fun x hx => by
        have := List.mem_range.mp hx
        simp
        omega
      rw [this]
      simp
    · rw [filter_one (show s < n by omega)]
      have : ¬ n = s := fun z => c z.symm
      simp [this]
theorem ix_tab {p : Nat} (hp : p < n) : fIx (.pv (tabB B n)) (.pv (natI p)) = some (.val (listN (rowB B n p))) := ev_ix (a := (p : Int)) (.inr (.inl rfl)) (atI_nat (by simp [hp]))
theorem in_list {a : Nat} {qs : List Nat} {c : Ct} (h : c.seq? = some (qs.map natI)) : fIn false (.pv (natI a)) c = some (.val (.bool (decide (a ∈ qs)))) := by
  have e : qs.map natI = (qs.map fun q : Nat => (q : Int)).map PyData.int := by rw [List.map_map]; rfl
  rw [e] at h
  rw [show natI a = .int (a : Int) from rfl, ev_inF h]
  have : (a : Int) ∈ qs.map (fun q : Nat => (q : Int)) ↔ a ∈ qs := by
    rw [List.mem_map]
    exact ⟨fun ⟨x, h, e⟩ => by rw [← show x = a by omega]; exact h, fun h => ⟨a, h, rfl⟩⟩
  rw [decide_eq_decide.mpr this]
abbrev edgeL (B : Nat → Nat → Bool) (n s r : Nat) : List Nat := (List.range n).filter (lev B n s r)
theorem edge_mem {r x : Nat} : x ∈ edgeL B n s r ↔ x < n ∧ lev B n s r x = true := by
  rw [List.mem_filter, List.mem_range]
theorem bools_natB {xs : List Nat} {g : Nat → Bool} : bools? (xs.map fun p => PyData.bool (g p)) = some (xs.map g) := by
  induction xs with
  | nil => rfl
  | cons x xs ih =>
    simp only [bools?, List.map_cons, List.mapM_cons] at ih ⊢
    rw [ih]
    rfl
theorem ev_anyB {xs : List Nat} {g : Nat → Bool} : fAny (.ob (.lst (xs.map fun p => PyData.bool (g p)))) = some (.val (.bool (xs.any g))) := by
  unfold fAny
  simp only [Ct.lst?, Option.bind_some, bools_natB, Option.map_some]
  congr 3
  rw [List.any_map]
  rfl
theorem dO_isNone {r x : Nat} : (dO B n s r x).isNone = !seen B n s r x := by
  cases e : seen B n s r x with
  | false => rw [dO_none.mpr e]; rfl
  | true =>
    cases e2 : dO B n s r x with
    | none => rw [dO_none.mp e2] at e; cases e
    | some d => rfl
theorem next_eq {r k : Nat} : ((dO B n s r k).isNone && (rowB B n k).any fun c => decide (c ∈ edgeL B n s r)) = lev B n s (r + 1) k := by
  rw [lev_next, dO_isNone]
  congr 1
  unfold rowB
  rw [List.any_filter, Bool.eq_iff_iff, List.any_eq_true, List.any_eq_true]
  constructor
  · rintro ⟨c, hc, h⟩
    rw [Bool.and_eq_true, decide_eq_true_iff, edge_mem] at h
    exact ⟨c, hc, by rw [h.1, h.2.2]; rfl⟩
  · rintro ⟨c, hc, h⟩
    rw [Bool.and_eq_true] at h
    refine ⟨c, hc, ?_⟩
    rw [Bool.and_eq_true, decide_eq_true_iff, edge_mem]
    exact ⟨h.1, List.mem_range.mp hc, h.2⟩
def muB (B : Nat → Nat → Bool) (n s r : Nat) : Nat := 2 * (List.range n).countP (fun x => !seen B n s r x) + if edgeL B n s r = [] then 0 else 1
theorem mu_lt {r : Nat} (h : edgeL B n s r ≠ []) : muB B n s (r + 1) < muB B n s r := by
  unfold muB
  rw [if_neg h]
  by_cases c : edgeL B n s (r + 1) = []
  · rw [if_pos c]
    have : (List.range n).countP (fun x => !seen B n s (r + 1) x) ≤ (List.range n).countP (fun x => !seen B n s r x) := List.countP_mono_left fun x _ hx => by
      cases e : seen B n s r x with
      | false => rfl
      | true => rw [seen_succ e] at hx; cases hx
    omega
  · rw [if_neg c]
    obtain ⟨x, hx⟩ := List.exists_mem_of_ne_nil _ c
    obtain ⟨h1, h2⟩ := edge_mem.mp hx
    have := count_lt (p := fun x => !seen B n s (r + 1) x) (q := fun x => !seen B n s r x) (l := List.range n) (fun y _ hy => by
      cases e : seen B n s r y with
      | false => rfl
      | true => rw [seen_succ e] at hy; cases hy) ⟨x, List.mem_range.mpr h1, by rw [lev_seen h2]; rfl, by rw [lev_not h2 (Nat.lt_succ_self r)]; rfl⟩
    omega
theorem of_rounds (hn : n ≤ 8) (hs : s < n) (q : ∀ R, (∀ x, x < n → lev B n s R x = false) → Q (.new (.lst ((List.range n).map fun x => oV (dO B n s R x)))) []) : Ret d_rounds_back [.val (tabB B n), .val (natI s)] Q := by
  have hln : (line : Nat) = 16777216 := rfl
  refine ret_mkR (by repeat constructor) ?_
  unfold b_rounds_back
  walk_at "rl"
  rw [List.length_map, List.length_range]
  have em : fMul (.ob (.lst [PyData.none])) (.pv (.int (n : Int))) = some (.new (.lst ((List.range n).map fun _ => PyData.none))) := by
    show (if _ then _ else _) = _
    rw [if_pos ⟨by simp; omega, by omega, by omega⟩, Int.toNat_natCast]
    congr 3
    have : ∀ n : Nat, (List.replicate n [PyData.none]).flatten = (List.range n).map fun _ => PyData.none := fun n => by
      rw [List.map_const', List.length_range]
      induction n with
      | zero => rfl
      | succ n ih => rw [List.replicate_succ, List.flatten_cons, ih]; rfl
    exact this n
  refine opq rfl rfl em ?_
  walk_at "rl"
  refine wp_setIxR ?_
  walk_at "rl"
  refine ixq (j := s) rfl rfl (by rw [List.length_map, List.length_range]; exact hs) (by walk_at "set") ?_
  rw [set_range]
  have e0 : (List.range n).map (fun x => if x = s then PyData.int 0 else PyData.none) = (List.range n).map fun x => oV (dO B n s 0 x) := List.map_congr_left fun x _ => by
    show _ = oV (if decide (x = s) = true then some 0 else none)
    by_cases c : x = s
    · rw [if_pos c, if_pos (decide_eq_true c)]; rfl
    · rw [if_neg c, if_neg (by rw [decide_eq_false c]; decide)]; rfl
  rw [e0]
  walk_at "rl"
  have e1 : ([natI s] : List PV) = (edgeL B n s 0).map natI := by
    have : edgeL B n s 0 = [s] := filter_one hs
    rw [this]
    rfl
  rw [e1]
  refine wp_while (fun r ρ => ∃ v3 u5, OwnL ((edgeL B n s r).map natI) v3 ∧ isRef u5 = false ∧ ρ = [some (.val (tabB B n)), some (.val (natI s)), some (.own (.lst ((List.range n).map fun x => oV (dO B n s r x)))), some v3, none, u5, none]) (muB B n s) 0 ⟨_, none, .inl rfl, rfl, rfl⟩ ?_
  rintro r _ ⟨v3, u5, hv, hu, rfl⟩
  have hel : (edgeL B n s r).length ≤ n := by
    have := List.length_filter_le (lev B n s r) (List.range n)
    rwa [List.length_range] at this
  have fin : edgeL B n s r = [] → Q (.new (.lst ((List.range n).map fun x => oV (dO B n s r x)))) [] := fun h => q r fun x hx => by
    cases e : lev B n s r x with
    | false => rfl
    | true =>
      have := edge_mem.mpr ⟨hx, e⟩
      rw [h] at this
      cases this
  have body : ∀ v3, OwnL ((edgeL B n s r).map natI) v3 → edgeL B n s r ≠ [] → ∀ QS, (∀ u5, isRef u5 = false → QS Fl.nx [some (.val (tabB B n)), some (.val (natI s)), some (.own (.lst ((List.range n).map fun x => oV (dO B n s (r + 1) x)))), some (.val (.list ((edgeL B n s (r + 1)).map natI))), none, u5, none]) → Wp l5_rounds_back [some (.val (tabB B n)), some (.val (natI s)), some (.own (.lst ((List.range n).map fun x => oV (dO B n s r x)))), some v3, none, u5, none] QS := by
    intro v3 hv hne QS qs
    obtain ⟨E, hE⟩ : ∃ E, E = edgeL B n s (r + 1) := ⟨_, rfl⟩
    have hEl : E.length ≤ n := by
      rw [hE]
      have := List.length_filter_le (lev B n s (r + 1)) (List.range n)
      rwa [List.length_range] at this
    have hEm : ∀ x, x ∈ E ↔ x < n ∧ lev B n s (r + 1) x = true := fun x => by rw [hE]; exact edge_mem
    rw [← hE] at qs
    obtain ⟨e0, es, he⟩ : ∃ e0 es, edgeL B n s r = e0 :: es := by
      cases e : edgeL B n s r with
      | nil => exact absurd e hne
      | cons a l => exact ⟨a, l, rfl⟩
    have he0 := edge_mem.mp (show e0 ∈ edgeL B n s r by rw [he]; exact List.mem_cons_self ..)
    unfold l5_rounds_back
    walk_at "rl"
    refine wp_lcRT (ρ1 := [some (.val (tabB B n)), some (.val (natI s)), some (.own (.lst ((List.range n).map fun x => oV (dO B n s r x)))), some v3, none, u5, none]) n (lev B n s (r + 1)) natI (by simp) (by omega) ?_ ?_ ?_ ?_
    · walk_at "rl"
      rw [List.length_map, List.length_range]
      exact ⟨rfl, rfl⟩
    · intro k hk
      dsimp only [set_s, set_z]
      unfold t3_rounds_back
      walk_at "rl"
      refine opq rfl rfl (ev_ix (a := (k : Int)) (.inr (.inr rfl)) (atI_nat (v := oV (dO B n s r k)) (by simp [hk]))) ?_
      walk_at "rl"
      rw [show (false ^^ isNone (oV (dO B n s r k))) = (dO B n s r k).isNone by cases dO B n s r k <;> rfl]
      have hx := next_eq (B := B) (n := n) (s := s) (r := r) (k := k)
      refine ⟨fun h1 => ?_, fun h1 => ?_⟩
      · rw [h1, Bool.true_and] at hx
        walk_at "rl"
        refine wp_lcLT (ρ1 := [some (.val (tabB B n)), some (.val (natI s)), some (.own (.lst ((List.range n).map fun x => oV (dO B n s r x)))), some v3, none, some (.val (natI k)), none]) natI (rowB B n k) (fun _ => true) (fun c => .bool (decide (c ∈ edgeL B n s r))) (by simp) ?_ ?_ ?_ ?_ ?_
        · have := List.length_filter_le (B k) (List.range n)
          rw [List.length_range] at this
          unfold rowB
          omega
        · walk_at "rl"
          refine opq rfl rfl (ix_tab hk) ?_
          walk_at "rl"
          first | rfl | exact ⟨.inl rfl, rfl⟩
        · intro x hx
          exact ⟨_, _, rfl, rfl, rfl⟩
        · intro x hx
          dsimp only [set_s, set_z]
          unfold e1_rounds_back
          rcases id hv with rfl | rfl
          all_goals
            walk_at "rl"
            refine opq rfl rfl (in_list (qs := edgeL B n s r) rfl) ?_
            walk_at "rl"
            first | rfl | exact ⟨rfl, rfl⟩
        rw [List.filter_eq_self.mpr (show ∀ a ∈ rowB B n k, (fun _ => true) a = true from fun _ _ => rfl)]
        refine unq rfl ev_anyB ?_
        rw [hx]
        walk_at "rl"
        first | rfl | exact ⟨rfl, rfl⟩
      · rw [h1, Bool.false_and] at hx
        first | exact ⟨hx, rfl⟩ | (walk_at "rl"; exact ⟨hx, rfl⟩)
    · intro k hk
      dsimp only [set_s, set_z]
      unfold e2_rounds_back
      walk_at "rl"
      first | rfl | exact ⟨rfl, rfl⟩
    rw [show (List.range n).filter (lev B n s (r + 1)) = E from hE.symm]
    walk_at "rl"
    refine wp_forL (fun i ρ => ∃ u5, isRef u5 = false ∧ ρ = [some (.val (tabB B n)), some (.val (natI s)), some (.own (.lst ((List.range n).map fun x => oV (if x ∈ E.take i then some (r + 1) else dO B n s r x)))), some v3, some (.val (.list (E.map natI))), u5, none]) (E.map natI) ?_ ?_ ?_
    · walk_at "rl"
      first | exact ⟨u5, hu, by simp⟩ | exact ⟨.inl rfl, u5, hu, by simp⟩
    · rintro i hi _ ⟨u5, hu, rfl⟩
      rw [List.length_map] at hi
      have e : (E.map natI)[i]'(by rw [List.length_map]; exact hi) = natI E[i] := by simp
      have hxi := (hEm E[i]).mp (List.getElem_mem hi)
      have hne0 : e0 ∉ E := fun z => by
        have := lev_uniq he0.2 ((hEm e0).mp z).2
        omega
      have hfe : (if e0 ∈ E.take i then some (r + 1) else dO B n s r e0) = some r := by
        rw [if_neg (fun z => hne0 (List.mem_of_mem_take z))]
        exact lev_dO he0.2 (Nat.le_refl _)
      have hnew : ((List.range n).map fun x => if x = E[i] then PyData.int ((r : Int) + 1) else oV (if x ∈ E.take i then some (r + 1) else dO B n s r x)) = (List.range n).map fun x => oV (if x ∈ E.take (i + 1) then some (r + 1) else dO B n s r x) := by
        refine List.map_congr_left fun x _ => ?_
        rw [List.take_succ_eq_append_getElem hi]
        by_cases c : x = E[i]
        · rw [if_pos c, if_pos (by rw [c]; exact List.mem_append_right _ (List.mem_singleton.mpr rfl))]; rfl
        · rw [if_neg c]
          by_cases d : x ∈ E.take i
          · rw [if_pos d, if_pos (List.mem_append_left _ d)]
          · rw [if_neg d, if_neg (fun z => (List.mem_append.mp z).elim d fun z => c (List.mem_singleton.mp z))]
      have hset : ((List.range n).map fun x => oV (if x ∈ E.take i then some (r + 1) else dO B n s r x)).set E[i] (.int ((r : Int) + 1)) = (List.range n).map fun x => oV (if x ∈ E.take (i + 1) then some (r + 1) else dO B n s r x) := by
        rw [set_range]
        exact hnew
      have hlen : ((List.range n).map fun x => oV (if x ∈ E.take i then some (r + 1) else dO B n s r x)).length = n := by rw [List.length_map, List.length_range]
      clear hnew
      rw [e, ← hset]
      generalize E[i] = x at *
      unfold l4_rounds_back
      walk_at "rl"
      refine wp_setIxR ?_
      have i1 : fIx v3.ct (.pv (.int 0)) = some (.val (natI e0)) := by
        rcases id hv with rfl | rfl
        · exact ev_ix (a := ((0 : Nat) : Int)) (.inr (.inr rfl)) (atI_nat (by rw [he]; rfl))
        · exact ev_ix (a := ((0 : Nat) : Int)) (.inr (.inl rfl)) (atI_nat (by rw [he]; rfl))
      have i2 : fIx (.ob (.lst ((List.range n).map fun x => oV (if x ∈ E.take i then some (r + 1) else dO B n s r x)))) (.pv (natI e0)) = some (.val (.int (r : Int))) := ev_ix (a := (e0 : Int)) (.inr (.inr rfl)) (atI_nat (by rw [List.getElem?_map, List.getElem?_range he0.1, Option.map_some, hfe]; rfl))
      generalize ((List.range n).map fun x => oV (if x ∈ E.take i then some (r + 1) else dO B n s r x)) = F at *
      rcases id hv with rfl | rfl
      all_goals
        walk_at "rl"
        refine opq rfl rfl i1 ?_
        walk_at "rl"
        refine opq rfl rfl i2 ?_
        walk_at "rl"
        refine ixq (j := x) rfl rfl (by rw [hlen]; exact hxi.1) (by walk_at "set") ?_
        walk_at "rl"
        exact ⟨_, rfl, rfl⟩
    · rintro _ ⟨u5, hu, rfl⟩
      rw [List.length_map, List.take_length]
      have hfin : ((List.range n).map fun x => oV (if x ∈ E then some (r + 1) else dO B n s r x)) = (List.range n).map fun x => oV (dO B n s (r + 1) x) := List.map_congr_left fun x hx => by
        show _ = oV (if lev B n s (r + 1) x = true then some (r + 1) else dO B n s r x)
        by_cases c : x ∈ E
        · rw [if_pos c, if_pos ((hEm x).mp c).2]
        · rw [if_neg c, if_neg fun z => c ((hEm x).mpr ⟨List.mem_range.mp hx, z⟩)]
      rw [hfin]
      rcases id hv with rfl | rfl
      all_goals
        walk_at "rl"
        exact qs u5 hu
  unfold t6_rounds_back
  rcases id hv with rfl | rfl
  all_goals
    walk_at "rl"
    refine ⟨fun h => ?_, fun h => ?_⟩
    · have h0 := of_decide_eq_true h
      have hne : edgeL B n s r ≠ [] := fun z => by rw [z] at h0; simp at h0
      refine body _ hv hne _ fun u5 hu => ?_
      walk_at "rl"
      exact ⟨r + 1, mu_lt hne, _, u5, .inr rfl, hu, rfl⟩
    · have h0 := of_decide_eq_false h
      have he : edgeL B n s r = [] := List.length_eq_zero_iff.mp (by rw [List.length_map] at h0; omega)
      walk_at "rl"
      exact fin he
end
end Py
namespace Py
open PySem D
local macro_rules
  | `(tactic| walk_at "w") => `(tactic| with_reducible first
    | refine seq_nx ?_ | refine seq_rt ?_ | refine seq_bk ?_ | refine seq_ct ?_ | refine wp_seq ?_ | refine wp_asg ?_ | refine wp_next ?_ | refine wp_ret ?_ | refine wp_retN ?_ | refine wp_brk ?_ | refine wp_cont ?_ | refine wp_expr ?_ | refine wp_op ?_ | refine wp_un ?_ | refine wp_c ?_
    | refine unB ?_ | refine wp_truB ?_ | refine wp_and ?_ | refine wp_or ?_ | refine wp_not ?_ | refine wp_ifE ?_ | refine wp_tup ?_ | refine wp_lst ?_ | refine wp_lcons ?_ | refine wp_lnil ?_ | refine frzV ?_ | refine frzN ?_ | refine wp_frz ?_ | refine wp_sl ?_ | refine wp_onone ?_ | refine wp_osome ?_
    | refine wp_anil ?_ | refine wp_av ?_ | refine wp_andV ?_ | refine wp_orV ?_ | refine wp_notV ?_ | refine wp_fgtR ?_ | refine turn_nx ?_ | refine turn_rt ?_ | refine turn_bk ?_ | refine turn_ct ?_ | refine fgt_rt ?_ | refine wp_par ?_ | refine wp_chain ?_ | refine wp_seqI ?_)
local macro_rules
  | `(tactic| walk_at "put") => `(tactic| focus ((repeat apply PutR.s); first | exact PutR.z rfl | exact PutR.z (by assumption)))
local macro_rules
  | `(tactic| walk_at "set") => `(tactic| focus ((repeat apply SetR.s); first | exact SetR.o | exact SetR.r))
local macro_rules
  | `(tactic| walk_at "fgt") => `(tactic| focus (repeat first | exact FgtsR.nil | exact FgtR.k | exact FgtR.z rfl | exact FgtR.z (by assumption) | apply FgtR.s | apply FgtsR.cons))
local macro_rules
  | `(tactic| walk_at "x") => `(tactic| first
    | ((with_reducible apply wp_varV); (focus exact rfl)) | ((with_reducible apply wp_varO); (focus exact rfl)) | ((with_reducible apply wp_varR); (focus exact rfl))
    | ((with_reducible apply opq); (focus exact rfl); (focus exact rfl); (focus (first | exact ev_eqI | exact ev_neI | exact ev_ltI | exact ev_leI | exact ev_gtI | exact ev_geI | exact ev_in2 | exact ev_in2n | exact ev_in4n | exact ev_isT | exact ev_isF | exact ev_isnT | exact ev_isnF | exact ev_eqQ0 | exact ev_eqQ1 | exact ev_eqQ | exact ev_neQ | exact ev_strT | exact ev_strF n1 | exact ev_strF n2 | exact ev_strF n3 | exact ev_strF n4 | exact ev_strF n5 | exact ev_strF n6 | exact rfl)))
    | ((with_reducible apply unq); (focus exact rfl); (focus exact rfl))
    | ((with_reducible first | apply putqV | apply putqN); walk_at "put")
    | ((with_reducible apply putqB); (focus exact rfl); (focus exact rfl); walk_at "put"; walk_at "put")
    | ((with_reducible apply putq2); walk_at "put"; walk_at "put")
    | ((with_reducible apply parq); walk_at "put"; walk_at "put")
    | ((with_reducible apply wp_callR); (focus (repeat first | exact RefsR.nil | apply RefsR.v | apply RefsR.r)); (focus decide))
    | ((with_reducible apply wp_ar); (focus exact rfl))
    | ((with_reducible apply fin_rt); (focus exact rfl); (focus exact rfl))
    | ((with_reducible apply fin_nx); (focus exact rfl))
    | ((with_reducible apply wp_appendR); (focus exact rfl))
    | (with_reducible refine ⟨_, rfl, ?_⟩) | (with_reducible refine ⟨_, .inl rfl, ?_⟩) | (with_reducible refine ⟨_, .inr (.inl rfl), ?_⟩) | (with_reducible refine ⟨_, .inr (.inr rfl), ?_⟩)
    | (with_reducible apply callq0) | ((with_reducible apply frzB); (focus exact rfl); (focus exact rfl); walk_at "put")
    | ((with_reducible apply callq1); walk_at "set")
    | ((with_reducible apply callq2); walk_at "set"; walk_at "set")
    | ((with_reducible first | apply fgt_nx | apply fgt_bk | apply fgt_ct); walk_at "fgt")
    | ((with_reducible apply brT); (focus exact rfl)) | ((with_reducible apply brF); (focus exact rfl)))
local macro_rules
  | `(tactic| walk_at "r") => `(tactic| repeat first | walk_at "w" | walk_at "x")
local macro_rules
  | `(tactic| walk_at "ri") => `(tactic| repeat first | walk_at "w" | walk_at "x" | (with_reducible refine wp_if ?_))
local macro_rules
  | `(tactic| walk_at "app") => `(tactic| ((with_reducible apply appq); (focus exact rfl); (focus ((try simp only [List.length_map, List.length_nil, List.length_cons, List.length_append]); unfold line; omega)); walk_at "set"))
local macro_rules
  | `(tactic| walk_at "mul") => `(tactic| ((refine opq rfl rfl (ev_mul ?_) ?_); (focus (apply mulT <;> omega))))
local macro_rules
  | `(tactic| walk_at "rm") => `(tactic| repeat first | walk_at "w" | walk_at "x" | walk_at "mul")
local macro_rules
  | `(tactic| walk_at "len") => `(tactic| (refine And.intro ?_ ?_; (focus (simp [line]; done))))
local macro_rules
  | `(tactic| walk_at "rl") => `(tactic| repeat first | walk_at "w" | walk_at "x" | walk_at "len")
local macro_rules
  | `(tactic| walk_at "ril") => `(tactic| repeat first | walk_at "w" | walk_at "x" | walk_at "len" | (with_reducible refine wp_if ?_))
/-! QRf: a ring from a die, walked. -/
abbrev tupB (s : List Nat) : PV := .tuple (s.map natI)
theorem ev_eqO {o : Option Nat} {a : Nat} : fEq (.pv (oV o)) (.pv (.int (a : Int))) = some (.val (.bool (decide (o = some a)))) := by
  cases o with
  | none =>
    rw [decide_eq_false (by simp)]
    simp [oV, fEq, eqD, SeqAt.shaped, PyData.eqv]
    exact ⟨rfl, by decide, rfl, Nat.le_of_ble_eq_true rfl⟩
  | some d =>
    rw [show oV (some d) = .int (d : Int) from rfl, ev_eqI]
    have : decide ((d : Int) = (a : Int)) = decide (some d = some a) := decide_eq_decide.mpr (by simp; omega)
    rw [this]
theorem foldl_min : ∀ (xs : List Int) (a : Int), (xs.foldl min a = a ∨ xs.foldl min a ∈ xs) ∧ xs.foldl min a ≤ a ∧ ∀ x ∈ xs, xs.foldl min a ≤ x
  | [], a => ⟨.inl rfl, Int.le_refl _, fun x hx => by cases hx⟩
  | y :: xs, a => by
    obtain ⟨h1, h2, h3⟩ := foldl_min xs (min a y)
    rw [List.foldl_cons]
    refine ⟨?_, by omega, fun x hx => ?_⟩
    · rcases h1 with h1 | h1
      · rw [h1]
        by_cases c : a ≤ y
        · exact .inl (by omega)
        · exact .inr (by rw [show min a y = y by omega]; exact List.mem_cons_self ..)
      · exact .inr (List.mem_cons_of_mem _ h1)
    · rcases List.mem_cons.mp hx with rfl | hx
      · omega
      · exact h3 x hx
theorem minL_spec {ns : List Int} (h : ns ≠ []) : minL ns ∈ ns ∧ ∀ x ∈ ns, minL ns ≤ x := by
  cases ns with
  | nil => exact absurd rfl h
  | cons a xs =>
    obtain ⟨h1, h2, h3⟩ := foldl_min xs a
    show xs.foldl min a ∈ a :: xs ∧ ∀ x ∈ a :: xs, xs.foldl min a ≤ x
    refine ⟨?_, fun x hx => ?_⟩
    · rcases h1 with h1 | h1
      · rw [h1]; exact List.mem_cons_self ..
      · exact List.mem_cons_of_mem _ h1
    · rcases List.mem_cons.mp hx with rfl | hx
      · exact h2
      · exact h3 x hx
theorem ev_min {ns : List Int} (h : ns ≠ []) : fMin (.ob (.lst (ns.map PyData.int))) = some (.val (.int (minL ns))) := by
  unfold fMin
  simp only [Ct.lst?, Option.bind_some, ints_map, if_neg h]
section
variable {Q : R → List Ob → Prop} {B : Nat → Nat → Bool} {n s : Nat}
theorem gr_step : ∀ {left last k : Nat} (h : k < left), (gr B n s left last)[k]'(by rw [gr_len]; exact h) = pickB B n s (left - k) (lastD (last :: (gr B n s left last).take k))
  | left + 1, last, 0, _ => rfl
  | left + 1, last, k + 1, h => by
    have ih := gr_step (left := left) (last := pickB B n s (left + 1) last) (k := k) (by omega)
    rw [show left + 1 - (k + 1) = left - k by omega]
    exact ih
theorem go_at : ∀ {left last k : Nat} (h : k < left), Go B n s left last → Go B n s (left - k) (lastD (last :: (gr B n s left last).take k)) ∧ (last < n → lastD (last :: (gr B n s left last).take k) < n)
  | left + 1, last, 0, _, hg => ⟨hg, fun h => h⟩
  | left + 1, last, k + 1, h, hg => by
    have hn := (go_next hg).resolve_left (by omega)
    have ih := go_at (left := left) (last := pickB B n s (left + 1) last) (k := k) (by omega) hn
    rw [show left + 1 - (k + 1) = left - k by omega]
    obtain ⟨o, h1, h2, h3⟩ := hg
    have hp := pick_ok h1 h2 h3
    exact ⟨ih.1, fun _ => ih.2 hp.2.1⟩
theorem lastD_at {l : List Nat} (h : l ≠ []) : atI (l.map natI) (-1) = some (natI (lastD l)) := by
  have e := (List.dropLast_concat_getLast h).symm
  have : lastD l = l.getLast h := by
    unfold lastD
    rw [List.getLastD_eq_getLast?, List.getLast?_eq_some_getLast h]
    rfl
  rw [this]
  conv => lhs; rw [e, List.map_append, List.map_singleton]
  exact atI_last
theorem rowB_len {p : Nat} : (rowB B n p).length ≤ n := by
  have := List.length_filter_le (B p) (List.range n)
  rwa [List.length_range] at this
theorem of_ring_from (hn : n ≤ 8) (hs : s < n) (q0 : (∀ m, ¬ IsM B n s m) → Q (.val .none) []) (q1 : ∀ m, IsM B n s m → Q (.val (tupB (s :: gr B n s m s))) []) : Ret d_ring_from [.val (tabB B n), .val (natI s)] Q := by
  have hln : (line : Nat) = 16777216 := rfl
  refine ret_mkR (by repeat constructor) ?_
  unfold b_ring_from
  walk_at "rl"
  refine of_rounds hn hs fun R hR => ?_
  have hall : ∀ {x d : Nat}, x < n → (dO B n s R x = some d ↔ lev B n s d x = true) := fun hx => dO_all hR hx
  have hF : ∀ {x : Nat}, x < n → fIx (.ob (.lst ((List.range n).map fun x => oV (dO B n s R x)))) (.pv (natI x)) = some (.val (oV (dO B n s R x))) := fun {x} hx => ev_ix (a := (x : Int)) (.inr (.inr rfl)) (atI_nat (by simp [hx]))
  generalize (List.range n).map (fun x => oV (dO B n s R x)) = F at *
  walk_at "rl"
  have hrow : ∀ {p x : Nat}, x ∈ rowB B n p → x < n ∧ B p x = true := fun {p x} h => by
    obtain ⟨h1, h2⟩ := List.mem_filter.mp h
    exact ⟨List.mem_range.mp h1, h2⟩
  refine wp_lcLT (ρ1 := [some (.val (tabB B n)), some (.val (natI s)), some (.own (.lst F)), none, none, none, none]) natI (rowB B n s) (fun o => (dO B n s R o).isSome) natI (by simp) (by have := rowB_len (B := B) (n := n) (p := s); omega) ?_ ?_ ?_ ?_
  · walk_at "rl"
    refine opq rfl rfl (ix_tab hs) ?_
    walk_at "rl"
    first | rfl | exact ⟨.inl rfl, rfl⟩
  · intro o ho
    dsimp only [set_s, set_z]
    unfold t2_ring_from
    walk_at "rl"
    refine opq rfl rfl (hF (hrow ho).1) ?_
    walk_at "rl"
    refine ⟨?_, rfl⟩
    cases dO B n s R o <;> rfl
  · intro o ho
    dsimp only [set_s, set_z]
    unfold e1_ring_from
    walk_at "rl"
    first | rfl | exact ⟨rfl, rfl⟩
  obtain ⟨A, hA⟩ : ∃ A, A = (rowB B n s).filter fun o => (dO B n s R o).isSome := ⟨_, rfl⟩
  rw [← hA]
  have hAm : ∀ o, o ∈ A ↔ (o < n ∧ B s o = true) ∧ ∃ d, lev B n s d o = true := fun o => by
    rw [hA, List.mem_filter]
    constructor
    · rintro ⟨h1, h2⟩
      have h1' := hrow h1
      obtain ⟨d, hd⟩ := Option.isSome_iff_exists.mp h2
      exact ⟨h1', d, (hall h1'.1).mp hd⟩
    · rintro ⟨h1, d, hd⟩
      exact ⟨List.mem_filter.mpr ⟨List.mem_range.mpr h1.1, h1.2⟩, by rw [(hall h1.1).mpr hd]; rfl⟩
  have hAl : A.length ≤ n := by
    rw [hA]
    exact Nat.le_trans (List.length_filter_le _ _) rowB_len
  walk_at "ril"
  refine ⟨fun h => ?_, fun h => ?_⟩
  · have h0 := of_decide_eq_true h
    have hA0 : A = [] := List.length_eq_zero_iff.mp (by rw [List.length_map] at h0; omega)
    walk_at "rl"
    refine q0 fun m hM => ?_
    obtain ⟨o, h1, h2, h3⟩ := hM.ex
    have := (hAm o).mpr ⟨⟨h1, h2⟩, m, h3⟩
    rw [hA0] at this
    cases this
  · have h0 := of_decide_eq_false h
    have hA0 : A ≠ [] := fun z => h0 (by rw [z]; rfl)
    obtain ⟨m, hM, hm⟩ : ∃ m, IsM B n s m ∧ minL (A.map fun o => (((dO B n s R o).getD 0 : Nat) : Int)) = (m : Int) := by
      obtain ⟨g1, g2⟩ := minL_spec (ns := A.map fun o => (((dO B n s R o).getD 0 : Nat) : Int)) (by simpa using hA0)
      obtain ⟨o, ho, e⟩ := List.mem_map.mp g1
      obtain ⟨ho1, d, hd⟩ := (hAm o).mp ho
      rw [(hall ho1.1).mpr hd] at e
      refine ⟨d, ⟨⟨o, ho1.1, ho1.2, hd⟩, fun o' h1 h2 d' h3 => ?_⟩, e.symm⟩
      have := g2 _ (List.mem_map.mpr ⟨o', (hAm o').mpr ⟨⟨h1, h2⟩, d', h3⟩, rfl⟩)
      rw [← e, (hall h1).mpr h3] at this
      simpa using this
    have hmn := isM_lt hs hM
    have hgo : m = 0 ∨ Go B n s m s := .inr hM.ex
    walk_at "rl"
    have hgl := gr_len (B := B) (n := n) (s := s) m s
    refine wp_forD (fun k ρ => ρ = [some (.val (tabB B n)), some (.val (natI s)), some (.own (.lst F)), some (.val (.list (A.map natI))), some (.own (.lst ((s :: (gr B n s m s).take k).map natI))), none, none]) m (by omega) ?_ ?_ ?_
    · walk_at "rl"
      refine wp_lcLT (ρ1 := [some (.val (tabB B n)), some (.val (natI s)), some (.own (.lst F)), some (.val (.list (A.map natI))), some (.own (.lst [natI s])), none, none]) natI A (fun _ => true) (fun o => .int (((dO B n s R o).getD 0 : Nat) : Int)) (by simp) (by omega) ?_ ?_ ?_ ?_
      · walk_at "rl"
        first | rfl | exact ⟨.inl rfl, rfl⟩
      · intro x hx
        exact ⟨_, _, rfl, rfl, rfl⟩
      · intro o ho
        dsimp only [set_s, set_z]
        unfold e3_ring_from
        obtain ⟨ho1, d, hd⟩ := (hAm o).mp ho
        walk_at "rl"
        refine opq rfl rfl (hF ho1.1) ?_
        walk_at "rl"
        rw [(hall ho1.1).mpr hd]
        exact ⟨rfl, rfl⟩
      rw [List.filter_eq_self.mpr (show ∀ a ∈ A, (fun _ => true) a = true from fun _ _ => rfl)]
      have es : (A.map fun o => PyData.int (((dO B n s R o).getD 0 : Nat) : Int)) = (A.map fun o => (((dO B n s R o).getD 0 : Nat) : Int)).map PyData.int := by rw [List.map_map]; rfl
      rw [es]
      walk_at "rl"
      refine unq rfl (ev_min (by simpa using hA0)) ?_
      rw [hm]
      walk_at "rl"
      refine ⟨rfl, ?_⟩
      walk_at "rl"
      exact ⟨rfl, rfl⟩
    · rintro k _ hk rfl
      obtain ⟨hg, hlt⟩ := go_at (B := B) (n := n) (s := s) (last := s) hk (hgo.resolve_left (by omega))
      have hgk := gr_step (B := B) (n := n) (s := s) (last := s) hk
      have htk := List.take_succ_eq_append_getElem (l := gr B n s m s) (i := k) (by rw [hgl]; exact hk)
      rw [hgk] at htk
      rw [htk]
      have hla := hlt hs
      have hTl : ((gr B n s m s).take k).length ≤ 8 := by rw [List.length_take]; omega
      generalize (gr B n s m s).take k = T at *
      have hat := lastD_at (l := s :: T) (by simp)
      generalize lastD (s :: T) = last at *
      unfold l6_ring_from
      walk_at "rl"
      refine wp_lcLT (ρ1 := [some (.val (tabB B n)), some (.val (natI s)), some (.own (.lst F)), some (.val (.list (A.map natI))), some (.own (.lst ((s :: T).map natI))), some (.val (.int ((m - k : Nat) : Int))), none]) natI (rowB B n last) (fun o => lev B n s (m - k) o) natI (by simp) (by have := rowB_len (B := B) (n := n) (p := last); omega) ?_ ?_ ?_ ?_
      · walk_at "rl"
        refine opq rfl rfl (ev_ix (a := -1) (.inr (.inr rfl)) hat) ?_
        walk_at "rl"
        refine opq rfl rfl (ix_tab hla) ?_
        walk_at "rl"
        first | rfl | exact ⟨.inl rfl, rfl⟩
      · intro o ho
        dsimp only [set_s, set_z]
        unfold t5_ring_from
        walk_at "rl"
        refine opq rfl rfl (hF (hrow ho).1) ?_
        walk_at "rl"
        refine opq rfl rfl ev_eqO ?_
        walk_at "rl"
        refine ⟨?_, rfl⟩
        rw [Bool.eq_iff_iff, decide_eq_true_iff]
        exact hall (hrow ho).1
      · intro o ho
        dsimp only [set_s, set_z]
        unfold e4_ring_from
        walk_at "rl"
        first | rfl | exact ⟨rfl, rfl⟩
      have ef : (rowB B n last).filter (fun o => lev B n s (m - k) o) = (List.range n).filter fun o => B last o && lev B n s (m - k) o := by
        unfold rowB
        rw [List.filter_filter]
        refine List.filter_congr fun x _ => ?_
        rw [Bool.and_comm]
      rw [ef]
      obtain ⟨o, h1, h2, h3⟩ := hg
      obtain ⟨x, l, e, _⟩ := head_filter (p := fun o => B last o && lev B n s (m - k) o) h1 (by rw [h2, h3]; rfl)
      have ep : pickB B n s (m - k) last = x := by unfold pickB; rw [e]; rfl
      rw [e, ep]
      walk_at "rl"
      refine opq rfl rfl (ev_ix (a := ((0 : Nat) : Int)) (.inr (.inr rfl)) (atI_nat (v := natI x) rfl)) ?_
      walk_at "rl"
      apply appq (xs := (s :: T).map natI) rfl (by rw [List.length_map, List.length_cons]; omega)
      walk_at "set"
      walk_at "rl"
      rw [← List.cons_append, List.map_append, List.map_singleton]
    · rintro _ rfl
      rw [List.take_of_length_le (by omega)]
      walk_at "rl"
      exact q1 m hM
end
end Py
namespace Py
open PySem D
local macro_rules
  | `(tactic| walk_at "w") => `(tactic| with_reducible first
    | refine seq_nx ?_ | refine seq_rt ?_ | refine seq_bk ?_ | refine seq_ct ?_ | refine wp_seq ?_ | refine wp_asg ?_ | refine wp_next ?_ | refine wp_ret ?_ | refine wp_retN ?_ | refine wp_brk ?_ | refine wp_cont ?_ | refine wp_expr ?_ | refine wp_op ?_ | refine wp_un ?_ | refine wp_c ?_
    | refine unB ?_ | refine wp_truB ?_ | refine wp_and ?_ | refine wp_or ?_ | refine wp_not ?_ | refine wp_ifE ?_ | refine wp_tup ?_ | refine wp_lst ?_ | refine wp_lcons ?_ | refine wp_lnil ?_ | refine frzV ?_ | refine frzN ?_ | refine wp_frz ?_ | refine wp_sl ?_ | refine wp_onone ?_ | refine wp_osome ?_
    | refine wp_anil ?_ | refine wp_av ?_ | refine wp_andV ?_ | refine wp_orV ?_ | refine wp_notV ?_ | refine wp_fgtR ?_ | refine turn_nx ?_ | refine turn_rt ?_ | refine turn_bk ?_ | refine turn_ct ?_ | refine fgt_rt ?_ | refine wp_par ?_ | refine wp_chain ?_ | refine wp_seqI ?_)
local macro_rules
  | `(tactic| walk_at "put") => `(tactic| focus ((repeat apply PutR.s); first | exact PutR.z rfl | exact PutR.z (by assumption)))
local macro_rules
  | `(tactic| walk_at "set") => `(tactic| focus ((repeat apply SetR.s); first | exact SetR.o | exact SetR.r))
local macro_rules
  | `(tactic| walk_at "fgt") => `(tactic| focus (repeat first | exact FgtsR.nil | exact FgtR.k | exact FgtR.z rfl | exact FgtR.z (by assumption) | apply FgtR.s | apply FgtsR.cons))
local macro_rules
  | `(tactic| walk_at "x") => `(tactic| first
    | ((with_reducible apply wp_varV); (focus exact rfl)) | ((with_reducible apply wp_varO); (focus exact rfl)) | ((with_reducible apply wp_varR); (focus exact rfl))
    | ((with_reducible apply opq); (focus exact rfl); (focus exact rfl); (focus (first | exact ev_eqI | exact ev_neI | exact ev_ltI | exact ev_leI | exact ev_gtI | exact ev_geI | exact ev_in2 | exact ev_in2n | exact ev_in4n | exact ev_isT | exact ev_isF | exact ev_isnT | exact ev_isnF | exact ev_eqQ0 | exact ev_eqQ1 | exact ev_eqQ | exact ev_neQ | exact ev_strT | exact ev_strF n1 | exact ev_strF n2 | exact ev_strF n3 | exact ev_strF n4 | exact ev_strF n5 | exact ev_strF n6 | exact rfl)))
    | ((with_reducible apply unq); (focus exact rfl); (focus exact rfl))
    | ((with_reducible first | apply putqV | apply putqN); walk_at "put")
    | ((with_reducible apply putqB); (focus exact rfl); (focus exact rfl); walk_at "put"; walk_at "put")
    | ((with_reducible apply putq2); walk_at "put"; walk_at "put")
    | ((with_reducible apply parq); walk_at "put"; walk_at "put")
    | ((with_reducible apply wp_callR); (focus (repeat first | exact RefsR.nil | apply RefsR.v | apply RefsR.r)); (focus decide))
    | ((with_reducible apply wp_ar); (focus exact rfl))
    | ((with_reducible apply fin_rt); (focus exact rfl); (focus exact rfl))
    | ((with_reducible apply fin_nx); (focus exact rfl))
    | ((with_reducible apply wp_appendR); (focus exact rfl))
    | (with_reducible refine ⟨_, rfl, ?_⟩) | (with_reducible refine ⟨_, .inl rfl, ?_⟩) | (with_reducible refine ⟨_, .inr (.inl rfl), ?_⟩) | (with_reducible refine ⟨_, .inr (.inr rfl), ?_⟩)
    | (with_reducible apply callq0) | ((with_reducible apply frzB); (focus exact rfl); (focus exact rfl); walk_at "put")
    | ((with_reducible apply callq1); walk_at "set")
    | ((with_reducible apply callq2); walk_at "set"; walk_at "set")
    | ((with_reducible first | apply fgt_nx | apply fgt_bk | apply fgt_ct); walk_at "fgt")
    | ((with_reducible apply brT); (focus exact rfl)) | ((with_reducible apply brF); (focus exact rfl)))
local macro_rules
  | `(tactic| walk_at "r") => `(tactic| repeat first | walk_at "w" | walk_at "x")
local macro_rules
  | `(tactic| walk_at "ri") => `(tactic| repeat first | walk_at "w" | walk_at "x" | (with_reducible refine wp_if ?_))
local macro_rules
  | `(tactic| walk_at "app") => `(tactic| ((with_reducible apply appq); (focus exact rfl); (focus ((try simp only [List.length_map, List.length_nil, List.length_cons, List.length_append]); unfold line; omega)); walk_at "set"))
local macro_rules
  | `(tactic| walk_at "mul") => `(tactic| ((refine opq rfl rfl (ev_mul ?_) ?_); (focus (apply mulT <;> omega))))
local macro_rules
  | `(tactic| walk_at "rm") => `(tactic| repeat first | walk_at "w" | walk_at "x" | walk_at "mul")
local macro_rules
  | `(tactic| walk_at "len") => `(tactic| (refine And.intro ?_ ?_; (focus (simp [line]; done))))
local macro_rules
  | `(tactic| walk_at "rl") => `(tactic| repeat first | walk_at "w" | walk_at "x" | walk_at "len")
local macro_rules
  | `(tactic| walk_at "ril") => `(tactic| repeat first | walk_at "w" | walk_at "x" | walk_at "len" | (with_reducible refine wp_if ?_))
/-! QRg: the program's ring, walked. -/
theorem wp_lcKE2 {β : Type} {i : Nat} {it : MI} {e : Py.M} {ρ : Env} {Q : R → Env → Prop} (Es : β → Env) (xs : List PV) (hv : Nat → PV) (hi : ∀ b, i < (Es b).length) (hg : ∀ b, get (Es b) i = none) (hl : xs.length ≤ line)
    (h : Wp it ρ fun ys ρ' => ys = xs ∧ ∃ b, ρ' = Es b)
    (step : ∀ k (hk : k < xs.length) b, Wp e (List.set (Es b) i (some (.val xs[k]))) fun r ρ3 => FrzQ r ρ3 fun v ρ4 => v = hv k ∧ ∃ b', ρ4 = List.set (Es b') i (some (.val xs[k])))
    (q : ∀ b, Q (.new (.lst ((List.range xs.length).map hv))) (Es b)) : Wp (mLc it (gName i) [i] tYes e) ρ Q := by
  have hself : ∀ b, List.set (Es b) i none = Es b := fun b => by
    have := hg b
    unfold get at this
    have hb := hi b
    rw [List.getElem?_eq_getElem hb] at this
    have e1 : (Es b)[i] = none := by simpa using this
    conv => rhs; rw [← List.set_getElem_self (as := Es b) (i := i) hb]
    rw [e1]
  refine wp_lc (fun x : PV => x) (fun done acc ρ' => acc = (List.range done.length).map hv ∧ ∃ b u, ρ' = List.set (Es b) i u) ?_
  refine h.mono fun ys ρ' ⟨e1, b0, e2⟩ => ?_
  subst e1 e2
  refine ⟨ys, by simp, hl, ⟨rfl, b0, none, (hself b0).symm⟩, ?_, ?_⟩
  · rintro done y rest acc _ e3 ⟨rfl, b, u, rfl⟩
    have hk : done.length < ys.length := by rw [e3]; simp
    have hy : ys[done.length] = y := by simp [e3]
    have hs := step done.length hk b
    rw [hy] at hs
    refine lcqY (ρ0 := List.set (Es b) i none) (by show (List.set (Es b) i u).set i none = _; exact set_set) ?_
    rw [hself]
    refine ⟨List.set (Es b) i (some (.val y)), ?_, hs.mono fun r ρ3 ⟨v, ρ4, e4, e5, b', e6⟩ => ⟨_, _, e4, ?_, b', some (.val y), e6⟩⟩
    · show put i (some (.val y)) (Es b) = _
      unfold put
      rw [hg b]
      rfl
    · rw [List.length_append, List.length_singleton, List.range_succ, List.map_append, e5]
      rfl
  · rintro acc _ ⟨rfl, b, u, rfl⟩
    have eb : back (Es b0) [i] (List.set (Es b) i u) = Es b := by
      show (List.set (Es b) i u).set i (get (Es b0) i) = Es b
      rw [set_set, hg b0, hself]
    rw [eb]
    exact q b
theorem pairLe_total2 (a b : Int × List Int) : (pairLe a b || pairLe b a) = true := by
  unfold pairLe
  simp only [Bool.or_eq_true, Bool.not_eq_true', decide_eq_false_iff_not]
  by_cases h : b.1 < a.1 ∨ (b.1 = a.1 ∧ b.2 < a.2)
  · refine .inr fun h2 => ?_
    rcases h with h | ⟨h, h'⟩ <;> rcases h2 with g | ⟨g, g'⟩
    · omega
    · omega
    · omega
    · exact List.lt_asymm h' g'
  · exact .inl h
theorem pairLe_trans2 (a b c : Int × List Int) (h1 : pairLe a b = true) (h2 : pairLe b c = true) : pairLe a c = true := by
  unfold pairLe at *
  simp only [Bool.not_eq_true', decide_eq_false_iff_not] at *
  intro h
  rcases h with h | ⟨h, h'⟩
  · apply h1
    by_cases e : b.1 < a.1
    · exact .inl e
    · exact absurd (.inl (by omega)) h2
  · by_cases e : b.1 < a.1
    · exact h1 (.inl e)
    · by_cases e2 : c.1 < b.1
      · exact h2 (.inl e2)
      · have n1 : ¬ b.2 < a.2 := fun z => h1 (.inr ⟨by omega, z⟩)
        have n2 : ¬ c.2 < b.2 := fun z => h2 (.inr ⟨by omega, z⟩)
        exact (List.le_trans (show a.2 ≤ b.2 from n1) (show b.2 ≤ c.2 from n2)) h'
theorem pairs_mapM2 (ps : List (Int × List Int)) : (ps.map pairV).mapM pairI? = some ps := by
  induction ps with
  | nil => rfl
  | cons p ps ih =>
    rw [List.map_cons, List.mapM_cons, ih]
    unfold pairV tupV pairI?
    simp [ints_map]
theorem ev_sortedP2 (ps : List (Int × List Int)) : fSortedP (.ob (.lst (ps.map pairV))) = some (.new (.lst ((ps.mergeSort pairLe).map pairV))) := by
  show ((ps.map pairV).mapM pairI?).map _ = _
  rw [pairs_mapM2]
  rfl
theorem wp_lcLP {α : Type} {i : Nat} {a e : M} {t : MT} {ρ ρ1 : Env} {Q : R → Env → Prop} (f : α → PV) (xs : List α) (p : α → Bool) (hv : α → PV) (hi : i < ρ1.length) (hl : xs.length ≤ line)
    (h : Wp a ρ fun x ρ' => (x = .val (.list (xs.map f)) ∨ x = .val (.tuple (xs.map f)) ∨ x = .new (.lst (xs.map f))) ∧ ρ' = ρ1)
    (ht : ∀ y, y ∈ xs → Wp t (List.set ρ1 i (some (.val (f y)))) fun b ρ3 => b = p y ∧ ρ3 = List.set ρ1 i (some (.val (f y))))
    (step : ∀ y, y ∈ xs → p y = true → Wp e (List.set ρ1 i (some (.val (f y)))) fun r ρ3 => FrzQ r ρ3 fun v ρ4 => v = hv y ∧ ρ4 = List.set ρ1 i (some (.val (f y))))
    (q : Q (.new (.lst ((xs.filter p).map hv))) ρ1) : Wp (mLc (iSeq a) (gName i) [i] t e) ρ Q := by
  refine wp_lc f (fun done acc ρ' => acc = (done.filter p).map hv ∧ ∃ u, ρ' = List.set ρ1 i u) ?_
  refine wp_seqI (h.mono fun x ρ' ⟨h1, h2⟩ => ⟨xs.map f, h1, ?_⟩)
  subst h2
  refine ⟨xs, rfl, hl, ⟨rfl, get ρ' i, ?_⟩, ?_, ?_⟩
  · unfold get
    rw [List.getElem?_eq_getElem hi]
    simp
  · rintro done y rest acc _ e3 ⟨rfl, u, rfl⟩
    have hy : y ∈ xs := by rw [e3]; simp
    have hs := step y hy
    have ht' := ht y hy
    have hg : get (List.set ρ' i none) i = none := by
      unfold get
      rw [List.getElem?_set_self hi]
      rfl
    refine ⟨List.set ρ' i (some (.val (f y))), ?_, ht'.mono fun b ρ3 ⟨e4, e5⟩ => ?_⟩
    · show put i (some (.val (f y))) (List.set (List.set ρ' i u) i none) = _
      rw [set_set]
      unfold put
      rw [hg]
      show some ((List.set ρ' i none).set i (some (.val (f y)))) = _
      rw [set_set]
    · subst e4 e5
      rw [List.filter_append, List.filter_cons, List.filter_nil]
      refine ⟨fun hb => (hs hb).mono fun r ρ3 ⟨v, ρ4, e6, e7, e8⟩ => ⟨v, ρ4, e6, ?_, some (.val (f y)), e8⟩, fun hb => ⟨?_, some (.val (f y)), rfl⟩⟩
      · rw [if_pos hb, List.map_append, e7]
        rfl
      · rw [if_neg (by rw [hb]; decide)]
        simp
  · rintro acc _ ⟨rfl, u, rfl⟩
    have eb : back ρ' [i] (List.set ρ' i u) = ρ' := by
      show (List.set ρ' i u).set i (get ρ' i) = ρ'
      rw [set_set]
      unfold get
      rw [List.getElem?_eq_getElem hi]
      simp
    rw [eb]
    exact q
def optB : Option (List Nat) → PV
  | none => .none
  | some s => tupB s
def castB (s : List Nat) : List Int := s.map Int.ofNat
theorem tupB_V (s : List Nat) : tupB s = tupV (castB s) := by unfold castB tupV; rw [List.map_map]; rfl
section
variable {Q : R → List Ob → Prop} {B : Nat → Nat → Bool} {n s : Nat} {dice : List (List Int)}
open Classical in
noncomputable def rF (B : Nat → Nat → Bool) (n s : Nat) : Option (List Nat) := if h : ∃ m, IsM B n s m then some (s :: gr B n s h.choose s) else none
theorem rF_none (h : ∀ m, ¬ IsM B n s m) : rF B n s = none := by
  unfold rF
  rw [dif_neg fun ⟨m, hm⟩ => h m hm]
theorem rF_some {m : Nat} (h : IsM B n s m) : rF B n s = some (s :: gr B n s m s) := by
  unfold rF
  have hx : ∃ m, IsM B n s m := ⟨m, h⟩
  rw [dif_pos hx, isM_uniq hx.choose_spec h]
theorem rF_cases : (rF B n s = none ∧ ∀ m, ¬ IsM B n s m) ∨ ∃ m, IsM B n s m ∧ rF B n s = some (s :: gr B n s m s) := by
  by_cases h : ∃ m, IsM B n s m
  · obtain ⟨m, hm⟩ := h
    exact .inr ⟨m, hm, rF_some hm⟩
  · have h' : ∀ m, ¬ IsM B n s m := fun m hm => h ⟨m, hm⟩
    exact .inl ⟨rF_none h', h'⟩
def prB (r : List Nat) : Int × List Int := ((r.length : Int), castB r)
theorem castB_lt {a b : Nat} {l l' : List Nat} (h : a < b) : castB (a :: l) < castB (b :: l') := by
  unfold castB
  rw [List.map_cons, List.map_cons, List.cons_lt_cons_iff]
  exact .inl (by show (a : Int) < (b : Int); omega)
theorem head_best {L : List (Int × List Int)} (hL : L = ((List.range n).filterMap (rF B n)).map prB) {p : Int × List Int} {ps : List (Int × List Int)} (h : L.mergeSort pairLe = p :: ps) : ∃ r, p = prB r ∧ Best B n (some r) := by
  have hmem : ∀ q, q ∈ L ↔ ∃ s m, s < n ∧ IsM B n s m ∧ q = prB (s :: gr B n s m s) := fun q => by
    rw [hL, List.mem_map]
    constructor
    · rintro ⟨r, hr, rfl⟩
      obtain ⟨s, hs, e⟩ := List.mem_filterMap.mp hr
      rcases rF_cases (B := B) (n := n) (s := s) with ⟨h1, _⟩ | ⟨m, h1, h2⟩
      · rw [h1] at e; cases e
      · rw [h2] at e
        cases e
        exact ⟨s, m, List.mem_range.mp hs, h1, rfl⟩
    · rintro ⟨s, m, hs, hM, rfl⟩
      exact ⟨_, List.mem_filterMap.mpr ⟨s, List.mem_range.mpr hs, rF_some hM⟩, rfl⟩
  have hsort := List.pairwise_mergeSort (le := pairLe) pairLe_trans2 pairLe_total2 L
  rw [h] at hsort
  have hle : ∀ q ∈ L, pairLe p q = true := fun q hq => by
    have hq' : q ∈ p :: ps := by rw [← h]; exact List.mem_mergeSort.mpr hq
    rcases List.mem_cons.mp hq' with rfl | hq'
    · have := pairLe_total2 q q
      simpa using this
    · exact (List.pairwise_cons.mp hsort).1 q hq'
  have hp : p ∈ L := List.mem_mergeSort.mp (by rw [h]; exact List.mem_cons_self ..)
  obtain ⟨s, m, hs, hM, rfl⟩ := (hmem p).mp hp
  refine ⟨_, rfl, .some hs hM fun s' hs' m' hM' => ?_⟩
  have := hle _ ((hmem _).mpr ⟨s', m', hs', hM', rfl⟩)
  unfold pairLe prB at this
  simp only [Bool.not_eq_true', decide_eq_false_iff_not, List.length_cons, gr_len] at this
  refine ⟨?_, fun e => ?_⟩
  · by_cases c : m ≤ m'
    · exact c
    · exact absurd (.inl (by omega)) this
  · by_cases c : s ≤ s'
    · exact c
    · exact absurd (.inr ⟨by omega, castB_lt (by omega)⟩) this
theorem of_ring (hd : Dcs dice) (q : ∀ r, Best (bD dice) dice.length r → Q (.val (optB r)) []) : Ret d_ring_k52 [.val (diceV dice)] Q := by
  have hln : (line : Nat) = 16777216 := rfl
  have hl := hd.len
  have hfaces := hd.get
  obtain ⟨n, hn⟩ : ∃ n, n = dice.length := ⟨_, rfl⟩
  have hix : ∀ {p : Nat}, p < n → fIx (.pv (diceV dice)) (.pv (natI p)) = some (.val (tupI (dice.getD p []))) := fun {p} hp => ix_dice (by omega)
  rw [← hn] at q
  rw [← hn] at hl
  refine ret_mkR (by repeat constructor) ?_
  unfold b_ring_k52
  walk_at "rl"
  refine wp_lcN (ρ1 := [some (.val (diceV dice)), none, none, none, none, none, none]) n (fun p => listN (rowB (bD dice) n p)) (by simp) (by omega) ?_ ?_ ?_
  · walk_at "rl"
    rw [List.length_map, ← hn]
    exact ⟨rfl, rfl⟩
  · intro p hp
    dsimp only [set_s, set_z]
    unfold e3_ring_k52
    walk_at "rl"
    refine wp_lcRT (ρ1 := [some (.val (diceV dice)), none, none, none, some (.val (natI p)), none, none]) n (bD dice p) natI (by simp) (by omega) ?_ ?_ ?_ ?_
    · walk_at "rl"
      rw [List.length_map, ← hn]
      exact ⟨rfl, rfl⟩
    · intro k hk
      dsimp only [set_s, set_z]
      unfold t2_ring_k52
      walk_at "rl"
      refine opq rfl rfl (hix hp) ?_
      walk_at "rl"
      refine opq rfl rfl (hix hk) ?_
      walk_at "rl"
      refine of_beats (hfaces p) (hfaces k) ?_
      walk_at "rl"
      first | rfl | exact ⟨rfl, rfl⟩
    · intro k hk
      dsimp only [set_s, set_z]
      unfold e1_ring_k52
      walk_at "rl"
      first | rfl | exact ⟨rfl, rfl⟩
    walk_at "rl"
    first | rfl | exact ⟨rfl, rfl⟩
  walk_at "rl"
  have key : ∀ u, OwnL ((List.range n).map fun p => listN (rowB (bD dice) n p)) u → ∀ QS : R → Env → Prop, (∀ u, OwnL ((List.range n).map fun p => listN (rowB (bD dice) n p)) u → QS (.new (.lst ((List.range n).map fun s => optB (rF (bD dice) n s)))) [some (.val (diceV dice)), some u, none, none, none, none, none]) → Wp (mLc (iRng1 (mUn fLen (mVar 0))) (gName 5) [5] tYes e4_ring_k52) [some (.val (diceV dice)), some u, none, none, none, none, none] QS := by
    intro u hu QS qs
    have hz : ((List.range n).map natI).length = n := by simp
    refine wp_lcKE2 (β := { u // OwnL ((List.range n).map fun p => listN (rowB (bD dice) n p)) u }) (fun u => [some (.val (diceV dice)), some u.1, none, none, none, none, none]) ((List.range n).map natI) (fun s => optB (rF (bD dice) n s)) (fun _ => by simp) (fun _ => rfl) (by rw [hz]; omega) (wp_rng1 ?_) ?_ ?_
    · walk_at "rl"
      rw [List.length_map, ← hn, Int.toNat_natCast]
      exact ⟨⟨by omega, by omega⟩, rfl, ⟨u, hu⟩, rfl⟩
    · rintro k hk ⟨u, hu⟩
      rw [hz] at hk
      have e : ((List.range n).map natI)[k]'(by rw [hz]; exact hk) = natI k := by simp
      rw [e]
      dsimp only [set_s, set_z]
      unfold e4_ring_k52
      rcases id hu with rfl | rfl
      all_goals
        walk_at "rl"
        refine of_ring_from (B := bD dice) (n := n) hl hk (fun h => ?_) (fun m h => ?_)
        · walk_at "rl"
          exact ⟨by rw [rF_none h]; rfl, ⟨_, .inr rfl⟩, rfl⟩
        · walk_at "rl"
          exact ⟨by rw [rF_some h]; rfl, ⟨_, .inr rfl⟩, rfl⟩
    · rintro ⟨u, hu⟩
      rw [hz]
      exact qs u hu
  refine key _ (.inl rfl) _ fun u hu => ?_
  have fin : ∀ QS : R → Env → Prop, QS (.new (.lst (((List.range n).filterMap (rF (bD dice) n)).map prB |>.map pairV))) [some (.val (diceV dice)), some u, some (.val (.list ((List.range n).map fun s => optB (rF (bD dice) n s)))), none, none, none, none] → Wp (mLc (iSeq (mFrz (mVar 2))) (gName 4) [4] t6_ring_k52 e5_ring_k52) [some (.val (diceV dice)), some u, some (.own (.lst ((List.range n).map fun s => optB (rF (bD dice) n s)))), none, none, none, none] QS := by
    intro QS qs
    refine wp_lcLP (ρ1 := [some (.val (diceV dice)), some u, some (.val (.list ((List.range n).map fun s => optB (rF (bD dice) n s)))), none, none, none, none]) (fun s => optB (rF (bD dice) n s)) (List.range n) (fun s => (rF (bD dice) n s).isSome) (fun s => pairV (prB ((rF (bD dice) n s).getD []))) (by simp) (by simp; omega) ?_ ?_ ?_ ?_
    · walk_at "rl"
      first | rfl | exact ⟨.inl rfl, rfl⟩
    · intro s hs
      dsimp only [set_s, set_z]
      unfold t6_ring_k52
      walk_at "rl"
      refine ⟨?_, rfl⟩
      cases rF (bD dice) n s <;> rfl
    · intro s hs hp
      dsimp only [set_s, set_z]
      unfold e5_ring_k52
      obtain ⟨r, hr⟩ := Option.isSome_iff_exists.mp hp
      have hlr : r.length ≤ n := by
        rcases rF_cases (B := bD dice) (n := n) (s := s) with ⟨h1, _⟩ | ⟨m, h1, h2⟩
        · rw [h1] at hr; cases hr
        · rw [h2] at hr
          cases hr
          have := isM_lt (List.mem_range.mp hs) h1
          rw [List.length_cons, gr_len]
          omega
      rw [hr]
      walk_at "rl"
      refine ⟨?_, rfl⟩
      show PyData.tuple [.int ((r.map natI).length : Int), tupB r] = .tuple [.int (r.length : Int), tupV (castB r)]
      rw [List.length_map, tupB_V]
    · have : (((List.range n).filter fun s => (rF (bD dice) n s).isSome).map fun s => pairV (prB ((rF (bD dice) n s).getD []))) = (((List.range n).filterMap (rF (bD dice) n)).map prB).map pairV := by
        generalize List.range n = l
        induction l with
        | nil => rfl
        | cons x l ih =>
          rw [List.filter_cons, List.filterMap_cons]
          cases e : rF (bD dice) n x with
          | none => simpa using ih
          | some r => simp [e] at ih ⊢; exact ih
      rw [this]
      exact qs
  walk_at "rl"
  refine fin _ ?_
  obtain ⟨L, hL⟩ : ∃ L, L = ((List.range n).filterMap (rF (bD dice) n)).map prB := ⟨_, rfl⟩
  rw [← hL]
  refine unq rfl (ev_sortedP2 L) ?_
  have hb := @head_best (bD dice) n L hL
  have hnil : L.mergeSort pairLe = [] → Best (bD dice) n none := fun h => .none fun s hs m hM => by
    have : L = [] := List.length_eq_zero_iff.mp (by rw [← (List.mergeSort_perm L pairLe).length_eq, h]; rfl)
    rw [hL] at this
    have h2 := List.map_eq_nil_iff.mp this
    have h3 : s :: gr (bD dice) n s m s ∈ (List.range n).filterMap (rF (bD dice) n) := List.mem_filterMap.mpr ⟨s, List.mem_range.mpr hs, rF_some hM⟩
    rw [h2] at h3
    cases h3
  have hlen : (L.mergeSort pairLe).length ≤ n := by
    rw [(List.mergeSort_perm L pairLe).length_eq, hL, List.length_map]
    have := List.length_filterMap_le (rF (bD dice) n) (List.range n)
    rwa [List.length_range] at this
  generalize L.mergeSort pairLe = S at *
  walk_at "rl"
  cases S with
  | nil =>
    walk_at "ril"
    exact q none (hnil rfl)
  | cons p ps =>
    obtain ⟨r, rfl, hB⟩ := hb rfl
    walk_at "ril"
    refine ⟨fun _ => ?_, fun h => ?_⟩
    · walk_at "ril"
      refine opq rfl rfl (ev_ix (a := ((0 : Nat) : Int)) (.inr (.inr rfl)) (atI_nat (v := pairV (prB r)) rfl)) ?_
      walk_at "ril"
      walk_at "ril"
      have e2 : tupV (prB r).snd = tupB r := (tupB_V r).symm
      rw [e2]
      exact q (some r) hB
    · have := of_decide_eq_false h
      simp at this
end
end Py
namespace Py
open PySem D
local macro_rules
  | `(tactic| walk_at "w") => `(tactic| with_reducible first
    | refine seq_nx ?_ | refine seq_rt ?_ | refine seq_bk ?_ | refine seq_ct ?_ | refine wp_seq ?_ | refine wp_asg ?_ | refine wp_next ?_ | refine wp_ret ?_ | refine wp_retN ?_ | refine wp_brk ?_ | refine wp_cont ?_ | refine wp_expr ?_ | refine wp_op ?_ | refine wp_un ?_ | refine wp_c ?_
    | refine unB ?_ | refine wp_truB ?_ | refine wp_and ?_ | refine wp_or ?_ | refine wp_not ?_ | refine wp_ifE ?_ | refine wp_tup ?_ | refine wp_lst ?_ | refine wp_lcons ?_ | refine wp_lnil ?_ | refine frzV ?_ | refine frzN ?_ | refine wp_frz ?_ | refine wp_sl ?_ | refine wp_onone ?_ | refine wp_osome ?_
    | refine wp_anil ?_ | refine wp_av ?_ | refine wp_andV ?_ | refine wp_orV ?_ | refine wp_notV ?_ | refine wp_fgtR ?_ | refine turn_nx ?_ | refine turn_rt ?_ | refine turn_bk ?_ | refine turn_ct ?_ | refine fgt_rt ?_ | refine wp_par ?_ | refine wp_chain ?_ | refine wp_seqI ?_)
local macro_rules
  | `(tactic| walk_at "put") => `(tactic| focus ((repeat apply PutR.s); first | exact PutR.z rfl | exact PutR.z (by assumption)))
local macro_rules
  | `(tactic| walk_at "set") => `(tactic| focus ((repeat apply SetR.s); first | exact SetR.o | exact SetR.r))
local macro_rules
  | `(tactic| walk_at "fgt") => `(tactic| focus (repeat first | exact FgtsR.nil | exact FgtR.k | exact FgtR.z rfl | exact FgtR.z (by assumption) | apply FgtR.s | apply FgtsR.cons))
local macro_rules
  | `(tactic| walk_at "x") => `(tactic| first
    | ((with_reducible apply wp_varV); (focus exact rfl)) | ((with_reducible apply wp_varO); (focus exact rfl)) | ((with_reducible apply wp_varR); (focus exact rfl))
    | ((with_reducible apply opq); (focus exact rfl); (focus exact rfl); (focus (first | exact ev_eqI | exact ev_neI | exact ev_ltI | exact ev_leI | exact ev_gtI | exact ev_geI | exact ev_in2 | exact ev_in2n | exact ev_in4n | exact ev_isT | exact ev_isF | exact ev_isnT | exact ev_isnF | exact ev_eqQ0 | exact ev_eqQ1 | exact ev_eqQ | exact ev_neQ | exact ev_strT | exact ev_strF n1 | exact ev_strF n2 | exact ev_strF n3 | exact ev_strF n4 | exact ev_strF n5 | exact ev_strF n6 | exact rfl)))
    | ((with_reducible apply unq); (focus exact rfl); (focus exact rfl))
    | ((with_reducible first | apply putqV | apply putqN); walk_at "put")
    | ((with_reducible apply putqB); (focus exact rfl); (focus exact rfl); walk_at "put"; walk_at "put")
    | ((with_reducible apply putq2); walk_at "put"; walk_at "put")
    | ((with_reducible apply parq); walk_at "put"; walk_at "put")
    | ((with_reducible apply wp_callR); (focus (repeat first | exact RefsR.nil | apply RefsR.v | apply RefsR.r)); (focus decide))
    | ((with_reducible apply wp_ar); (focus exact rfl))
    | ((with_reducible apply fin_rt); (focus exact rfl); (focus exact rfl))
    | ((with_reducible apply fin_nx); (focus exact rfl))
    | ((with_reducible apply wp_appendR); (focus exact rfl))
    | (with_reducible refine ⟨_, rfl, ?_⟩) | (with_reducible refine ⟨_, .inl rfl, ?_⟩) | (with_reducible refine ⟨_, .inr (.inl rfl), ?_⟩) | (with_reducible refine ⟨_, .inr (.inr rfl), ?_⟩)
    | (with_reducible apply callq0) | ((with_reducible apply frzB); (focus exact rfl); (focus exact rfl); walk_at "put")
    | ((with_reducible apply callq1); walk_at "set")
    | ((with_reducible apply callq2); walk_at "set"; walk_at "set")
    | ((with_reducible first | apply fgt_nx | apply fgt_bk | apply fgt_ct); walk_at "fgt")
    | ((with_reducible apply brT); (focus exact rfl)) | ((with_reducible apply brF); (focus exact rfl)))
local macro_rules
  | `(tactic| walk_at "r") => `(tactic| repeat first | walk_at "w" | walk_at "x")
local macro_rules
  | `(tactic| walk_at "ri") => `(tactic| repeat first | walk_at "w" | walk_at "x" | (with_reducible refine wp_if ?_))
local macro_rules
  | `(tactic| walk_at "app") => `(tactic| ((with_reducible apply appq); (focus exact rfl); (focus ((try simp only [List.length_map, List.length_nil, List.length_cons, List.length_append]); unfold line; omega)); walk_at "set"))
local macro_rules
  | `(tactic| walk_at "mul") => `(tactic| ((refine opq rfl rfl (ev_mul ?_) ?_); (focus (apply mulT <;> omega))))
local macro_rules
  | `(tactic| walk_at "rm") => `(tactic| repeat first | walk_at "w" | walk_at "x" | walk_at "mul")
local macro_rules
  | `(tactic| walk_at "len") => `(tactic| (refine And.intro ?_ ?_; (focus (simp [line]; done))))
local macro_rules
  | `(tactic| walk_at "rl") => `(tactic| repeat first | walk_at "w" | walk_at "x" | walk_at "len")
local macro_rules
  | `(tactic| walk_at "ril") => `(tactic| repeat first | walk_at "w" | walk_at "x" | walk_at "len" | (with_reducible refine wp_if ?_))
/-! QRh: the steps between all pairs, walked. -/
def rowW (B : Nat → Nat → Bool) (n m p : Nat) : PV := .list ((List.range n).map fun q => .int ((wk B m p q : Nat) : Int))
section
variable {Q : R → List Ob → Prop} {B : Nat → Nat → Bool} {n s : Nat}
theorem ix_rowW {m p q : Nat} (hq : q < n) : fIx (.pv (rowW B n m p)) (.pv (natI q)) = some (.val (.int ((wk B m p q : Nat) : Int))) := ev_ix (a := (q : Int)) (.inr (.inl rfl)) (atI_nat (by simp [hq]))
theorem ix_own {f : Nat → PV} {p : Nat} (hp : p < n) : fIx (.ob (.lst ((List.range n).map f))) (.pv (natI p)) = some (.val (f p)) := ev_ix (a := (p : Int)) (.inr (.inr rfl)) (atI_nat (by simp [hp]))
theorem of_steps (hn : n ≤ 8) (q : Q (.new (.lst ((List.range n).map fun p => rowW B n n p))) []) : Ret d_law_steps [.val (tabB B n)] Q := by
  have hln : (line : Nat) = 16777216 := rfl
  refine ret_mkR (by repeat constructor) ?_
  unfold b_law_steps
  walk_at "rl"
  rw [List.length_map, List.length_range]
  refine wp_lcN (ρ1 := [some (.val (tabB B n)), some (.val (.int (n : Int))), none, none, none, none, none, none]) n (fun p => rowW B n 0 p) (by simp) (by omega) ?_ ?_ ?_
  · walk_at "rl"
    exact ⟨rfl, rfl⟩
  · intro p hp
    dsimp only [set_s, set_z]
    unfold e2_law_steps
    walk_at "rl"
    refine wp_lcN (ρ1 := [some (.val (tabB B n)), some (.val (.int (n : Int))), none, none, none, some (.val (natI p)), none, none]) n (fun q => .int ((wk B 0 p q : Nat) : Int)) (by simp) (by omega) ?_ ?_ ?_
    · walk_at "rl"
      exact ⟨rfl, rfl⟩
    · intro k hk
      dsimp only [set_s, set_z]
      unfold e1_law_steps
      walk_at "rl"
      refine opq rfl rfl (ix_tab hp) ?_
      walk_at "rl"
      refine opq rfl rfl (in_list (qs := rowB B n p) rfl) ?_
      have hm : decide (k ∈ rowB B n p) = B p k := by
        unfold rowB
        rw [Bool.eq_iff_iff, decide_eq_true_iff, List.mem_filter]
        exact ⟨fun h => h.2, fun h => ⟨List.mem_range.mpr hk, h⟩⟩
      rw [hm]
      unfold wk
      cases B p k with
      | true =>
        walk_at "rl"
        first | rfl | exact ⟨rfl, rfl⟩
      | false =>
        walk_at "rl"
        first | rfl | exact ⟨rfl, rfl⟩
    walk_at "rl"
    first | rfl | exact ⟨rfl, rfl⟩
  walk_at "rl"
  refine wp_forN (fun m ρ => ρ = [some (.val (tabB B n)), some (.val (.int (n : Int))), some (.own (.lst ((List.range n).map fun p => rowW B n m p))), none, none, none, none, none]) n ?_ ?_ ?_
  · walk_at "rl"
    exact ⟨rfl, by omega, rfl⟩
  · rintro m _ hm rfl
    unfold l5_law_steps
    walk_at "rl"
    refine opq rfl rfl (ix_own (p := m) hm) ?_
    walk_at "rl"
    refine wp_forN (fun i ρ => ρ = [some (.val (tabB B n)), some (.val (.int (n : Int))), some (.own (.lst ((List.range n).map fun p => if p < i then rowW B n (m + 1) p else rowW B n m p))), some (.val (natI m)), some (.val (rowW B n m m)), none, none, none]) n ?_ ?_ ?_
    · walk_at "rl"
      exact ⟨rfl, by omega, by simp; rfl⟩
    · rintro i _ hi rfl
      have hnew : ((List.range n).map fun p => if p < i then rowW B n (m + 1) p else rowW B n m p).set i (rowW B n (m + 1) i) = (List.range n).map fun p => if p < i + 1 then rowW B n (m + 1) p else rowW B n m p := by
        rw [set_range]
        refine List.map_congr_left fun x _ => ?_
        by_cases c : x = i
        · subst c; rw [if_pos rfl, if_pos (by omega)]
        · rw [if_neg c]
          by_cases d : x < i
          · rw [if_pos d, if_pos (by omega)]
          · rw [if_neg d, if_neg (by omega)]
      have hat : fIx (.ob (.lst ((List.range n).map fun p => if p < i then rowW B n (m + 1) p else rowW B n m p))) (.pv (natI i)) = some (.val (rowW B n m i)) := by
        rw [ix_own hi, if_neg (by omega)]
      have hle := wk_le (B := B) m i m
      have hFl : ((List.range n).map fun p => if p < i then rowW B n (m + 1) p else rowW B n m p).length = n := by rw [List.length_map, List.length_range]
      rw [← hnew]
      clear hnew
      generalize hF : ((List.range n).map fun p => if p < i then rowW B n (m + 1) p else rowW B n m p) = F at *
      unfold l4_law_steps
      walk_at "rl"
      refine opq rfl rfl hat ?_
      walk_at "rl"
      refine opq rfl rfl (ix_rowW hm) ?_
      walk_at "ril"
      refine ⟨fun h => ?_, fun h => ?_⟩
      · have hlt : wk B m i m < 99 := by have := of_decide_eq_true h; omega
        walk_at "ril"
        refine wp_setIxR ?_
        walk_at "ril"
        refine wp_lcN (ρ1 := [some (.val (tabB B n)), some (.val (.int (n : Int))), some (.own (.lst F)), some (.val (natI m)), some (.val (rowW B n m m)), some (.val (natI i)), some (.val (.int ((wk B m i m : Nat) : Int))), none]) n (fun q => .int ((wk B (m + 1) i q : Nat) : Int)) (by simp) (by omega) ?_ ?_ ?_
        · walk_at "rl"
          exact ⟨rfl, rfl⟩
        · intro k hk
          dsimp only [set_s, set_z]
          unfold e3_law_steps
          walk_at "rl"
          refine opq rfl rfl hat ?_
          walk_at "rl"
          refine opq rfl rfl (ix_rowW hk) ?_
          walk_at "rl"
          refine opq rfl rfl (ix_rowW hk) ?_
          walk_at "rl"
          refine ⟨?_, rfl⟩
          have ew : wk B (m + 1) i k = min (wk B m i k) (wk B m i m + wk B m m k) := by
            show (if wk B m i m < 99 then _ else _) = _
            rw [if_pos hlt]
          rw [ew]
          by_cases c : wk B m i m + wk B m m k < wk B m i k
          · rw [if_pos (by omega), Nat.min_eq_right (by omega), Int.natCast_add]
          · rw [if_neg (by omega), Nat.min_eq_left (by omega)]
        walk_at "ril"
        refine ixq (j := i) rfl rfl (by rw [hFl]; exact hi) (by walk_at "set") ?_
        walk_at "ril"
        try rfl
      · have hge : ¬ wk B m i m < 99 := by have := of_decide_eq_false h; omega
        walk_at "ril"
        have er : rowW B n (m + 1) i = rowW B n m i := by
          unfold rowW
          congr 1
          refine List.map_congr_left fun x _ => ?_
          have : wk B (m + 1) i x = wk B m i x := by
            show (if wk B m i m < 99 then _ else _) = _
            rw [if_neg hge]
          rw [this]
        have es : F.set i (rowW B n (m + 1) i) = F := by
          rw [er, ← hF, set_range]
          refine List.map_congr_left fun x _ => ?_
          by_cases c : x = i
          · subst c; rw [if_pos rfl, if_neg (by omega)]
          · rw [if_neg c]
        rw [es]
        try rfl
    · rintro _ rfl
      have e : ((List.range n).map fun p => if p < n then rowW B n (m + 1) p else rowW B n m p) = (List.range n).map fun p => rowW B n (m + 1) p := List.map_congr_left fun x hx => by rw [if_pos (List.mem_range.mp hx)]
      rw [e]
      walk_at "rl"
      try rfl
  · rintro _ rfl
    walk_at "rl"
    exact q
end
end Py
namespace Py
open PySem D
local macro_rules
  | `(tactic| walk_at "w") => `(tactic| with_reducible first
    | refine seq_nx ?_ | refine seq_rt ?_ | refine seq_bk ?_ | refine seq_ct ?_ | refine wp_seq ?_ | refine wp_asg ?_ | refine wp_next ?_ | refine wp_ret ?_ | refine wp_retN ?_ | refine wp_brk ?_ | refine wp_cont ?_ | refine wp_expr ?_ | refine wp_op ?_ | refine wp_un ?_ | refine wp_c ?_
    | refine unB ?_ | refine wp_truB ?_ | refine wp_and ?_ | refine wp_or ?_ | refine wp_not ?_ | refine wp_ifE ?_ | refine wp_tup ?_ | refine wp_lst ?_ | refine wp_lcons ?_ | refine wp_lnil ?_ | refine frzV ?_ | refine frzN ?_ | refine wp_frz ?_ | refine wp_sl ?_ | refine wp_onone ?_ | refine wp_osome ?_
    | refine wp_anil ?_ | refine wp_av ?_ | refine wp_andV ?_ | refine wp_orV ?_ | refine wp_notV ?_ | refine wp_fgtR ?_ | refine turn_nx ?_ | refine turn_rt ?_ | refine turn_bk ?_ | refine turn_ct ?_ | refine fgt_rt ?_ | refine wp_par ?_ | refine wp_chain ?_ | refine wp_seqI ?_)
local macro_rules
  | `(tactic| walk_at "put") => `(tactic| focus ((repeat apply PutR.s); first | exact PutR.z rfl | exact PutR.z (by assumption)))
local macro_rules
  | `(tactic| walk_at "set") => `(tactic| focus ((repeat apply SetR.s); first | exact SetR.o | exact SetR.r))
local macro_rules
  | `(tactic| walk_at "fgt") => `(tactic| focus (repeat first | exact FgtsR.nil | exact FgtR.k | exact FgtR.z rfl | exact FgtR.z (by assumption) | apply FgtR.s | apply FgtsR.cons))
local macro_rules
  | `(tactic| walk_at "x") => `(tactic| first
    | ((with_reducible apply wp_varV); (focus exact rfl)) | ((with_reducible apply wp_varO); (focus exact rfl)) | ((with_reducible apply wp_varR); (focus exact rfl))
    | ((with_reducible apply opq); (focus exact rfl); (focus exact rfl); (focus (first | exact ev_eqI | exact ev_neI | exact ev_ltI | exact ev_leI | exact ev_gtI | exact ev_geI | exact ev_in2 | exact ev_in2n | exact ev_in4n | exact ev_isT | exact ev_isF | exact ev_isnT | exact ev_isnF | exact ev_eqQ0 | exact ev_eqQ1 | exact ev_eqQ | exact ev_neQ | exact ev_strT | exact ev_strF n1 | exact ev_strF n2 | exact ev_strF n3 | exact ev_strF n4 | exact ev_strF n5 | exact ev_strF n6 | exact rfl)))
    | ((with_reducible apply unq); (focus exact rfl); (focus exact rfl))
    | ((with_reducible first | apply putqV | apply putqN); walk_at "put")
    | ((with_reducible apply putqB); (focus exact rfl); (focus exact rfl); walk_at "put"; walk_at "put")
    | ((with_reducible apply putq2); walk_at "put"; walk_at "put")
    | ((with_reducible apply parq); walk_at "put"; walk_at "put")
    | ((with_reducible apply wp_callR); (focus (repeat first | exact RefsR.nil | apply RefsR.v | apply RefsR.r)); (focus decide))
    | ((with_reducible apply wp_ar); (focus exact rfl))
    | ((with_reducible apply fin_rt); (focus exact rfl); (focus exact rfl))
    | ((with_reducible apply fin_nx); (focus exact rfl))
    | ((with_reducible apply wp_appendR); (focus exact rfl))
    | (with_reducible refine ⟨_, rfl, ?_⟩) | (with_reducible refine ⟨_, .inl rfl, ?_⟩) | (with_reducible refine ⟨_, .inr (.inl rfl), ?_⟩) | (with_reducible refine ⟨_, .inr (.inr rfl), ?_⟩)
    | (with_reducible apply callq0) | ((with_reducible apply frzB); (focus exact rfl); (focus exact rfl); walk_at "put")
    | ((with_reducible apply callq1); walk_at "set")
    | ((with_reducible apply callq2); walk_at "set"; walk_at "set")
    | ((with_reducible first | apply fgt_nx | apply fgt_bk | apply fgt_ct); walk_at "fgt")
    | ((with_reducible apply brT); (focus exact rfl)) | ((with_reducible apply brF); (focus exact rfl)))
local macro_rules
  | `(tactic| walk_at "r") => `(tactic| repeat first | walk_at "w" | walk_at "x")
local macro_rules
  | `(tactic| walk_at "ri") => `(tactic| repeat first | walk_at "w" | walk_at "x" | (with_reducible refine wp_if ?_))
local macro_rules
  | `(tactic| walk_at "app") => `(tactic| ((with_reducible apply appq); (focus exact rfl); (focus ((try simp only [List.length_map, List.length_nil, List.length_cons, List.length_append]); unfold line; omega)); walk_at "set"))
local macro_rules
  | `(tactic| walk_at "mul") => `(tactic| ((refine opq rfl rfl (ev_mul ?_) ?_); (focus (apply mulT <;> omega))))
local macro_rules
  | `(tactic| walk_at "rm") => `(tactic| repeat first | walk_at "w" | walk_at "x" | walk_at "mul")
local macro_rules
  | `(tactic| walk_at "len") => `(tactic| (refine And.intro ?_ ?_; (focus (simp [line]; done))))
local macro_rules
  | `(tactic| walk_at "rl") => `(tactic| repeat first | walk_at "w" | walk_at "x" | walk_at "len")
local macro_rules
  | `(tactic| walk_at "ril") => `(tactic| repeat first | walk_at "w" | walk_at "x" | walk_at "len" | (with_reducible refine wp_if ?_))
/-! QRi: the law's least ring, walked. -/
section
variable {Q : R → List Ob → Prop} {B : Nat → Nat → Bool} {n s : Nat}
theorem of_least (hn : n ≤ 8) (q : ∀ r, Best B n r → Q (.val (optB r)) []) : Ret d_law_least_ring [.val (tabB B n)] Q := by
  have hln : (line : Nat) = 16777216 := rfl
  refine ret_mkR (by repeat constructor) ?_
  unfold b_law_least_ring
  walk_at "rl"
  rw [List.length_map, List.length_range]
  refine of_steps hn ?_
  walk_at "rl"
  have hrow : ∀ {p x : Nat}, x ∈ rowB B n p → x < n ∧ B p x = true := fun {p x} h => by
    obtain ⟨h1, h2⟩ := List.mem_filter.mp h
    exact ⟨List.mem_range.mp h1, h2⟩
  refine wp_lcN (ρ1 := [some (.val (tabB B n)), some (.val (.int (n : Int))), some (.own (.lst ((List.range n).map fun p => rowW B n n p))), none, none, none, none, none, none]) n (fun p => .int ((wk B n p p : Nat) : Int)) (by simp) (by omega) ?_ ?_ ?_
  · walk_at "rl"
    exact ⟨rfl, rfl⟩
  · intro p hp
    dsimp only [set_s, set_z]
    unfold e1_law_least_ring
    walk_at "rl"
    refine opq rfl rfl (ix_own (p := p) hp) ?_
    walk_at "rl"
    refine opq rfl rfl (ix_rowW hp) ?_
    walk_at "rl"
    first | rfl | exact ⟨rfl, rfl⟩
  refine opq rfl rfl (ev_addL (by simp; omega)) ?_
  obtain ⟨ns, hns⟩ : ∃ ns : List Int, ns = 99 :: (List.range n).map fun p => ((wk B n p p : Nat) : Int) := ⟨_, rfl⟩
  have es : [PyData.int 99] ++ (List.range n).map (fun p => PyData.int ((wk B n p p : Nat) : Int)) = ns.map PyData.int := by
    rw [hns, List.map_cons, List.map_map]
    rfl
  rw [es]
  have hne : ns ≠ [] := by rw [hns]; simp
  refine unq rfl (ev_min hne) ?_
  obtain ⟨f, hf⟩ : ∃ f : Nat, minL ns = (f : Int) ∧ f ≤ 99 ∧ (∀ x, x < n → f ≤ wk B n x x) ∧ (f < 99 → ∃ x, x < n ∧ wk B n x x = f) := by
    obtain ⟨g1, g2⟩ := minL_spec hne
    rw [hns] at g1 g2
    have h99 := g2 99 (List.mem_cons_self ..)
    have hall : ∀ x, x < n → minL ns ≤ ((wk B n x x : Nat) : Int) := fun x hx => by
      have := g2 _ (List.mem_cons_of_mem _ (List.mem_map.mpr ⟨x, List.mem_range.mpr hx, rfl⟩))
      rwa [← hns] at this
    rw [← hns] at g1 h99
    have g1' : minL ns ∈ (99 : Int) :: (List.range n).map fun p => ((wk B n p p : Nat) : Int) := by rw [← hns]; exact g1
    have h0 : 0 ≤ minL ns := by
      rcases List.mem_cons.mp g1' with h | h
      · omega
      · obtain ⟨x, _, e⟩ := List.mem_map.mp h
        omega
    obtain ⟨f, hf⟩ := Int.eq_ofNat_of_zero_le h0
    refine ⟨f, hf, by omega, fun x hx => by have := hall x hx; omega, fun hlt => ?_⟩
    rcases List.mem_cons.mp g1' with h | h
    · omega
    · obtain ⟨x, hx, e⟩ := List.mem_map.mp h
      exact ⟨x, List.mem_range.mp hx, by omega⟩
  obtain ⟨hf, f99, fle, fex⟩ := hf
  rw [hf]
  clear es hns hf hne ns
  walk_at "ril"
  refine ⟨fun h => ?_, fun h => ?_⟩
  · have h0 : f = 99 := by have := of_decide_eq_true h; omega
    walk_at "rl"
    refine q none (steps_none (by omega) fun x hx => ?_)
    have := fle x hx
    have := wk_le (B := B) n x x
    omega
  · have h0 : f < 99 := by have := of_decide_eq_false h; omega
    walk_at "rl"
    refine wp_lcRT (ρ1 := [some (.val (tabB B n)), some (.val (.int (n : Int))), some (.own (.lst ((List.range n).map fun p => rowW B n n p))), some (.val (.int (f : Int))), none, none, none, none, none]) n (fun p => decide (wk B n p p = f)) natI (by simp) (by omega) ?_ ?_ ?_ ?_
    · walk_at "rl"
      exact ⟨rfl, rfl⟩
    · intro p hp
      dsimp only [set_s, set_z]
      unfold t3_law_least_ring
      walk_at "rl"
      refine opq rfl rfl (ix_own (p := p) hp) ?_
      walk_at "rl"
      refine opq rfl rfl (ix_rowW hp) ?_
      walk_at "rl"
      refine ⟨?_, rfl⟩
      exact decide_eq_decide.mpr (by omega)
    · intro p hp
      dsimp only [set_s, set_z]
      unfold e2_law_least_ring
      walk_at "rl"
      first | rfl | exact ⟨rfl, rfl⟩
    obtain ⟨x0, hx0, ex0⟩ := fex h0
    obtain ⟨s, l, el, _, hs, hps⟩ := head_filter (p := fun p => decide (wk B n p p = f)) hx0 (decide_eq_true ex0)
    have hw : wk B n s s = f := of_decide_eq_true hps
    have hfirst : ∀ x, x < n → wk B n x x = f → s ≤ x := fun x hx e => by
      obtain ⟨s', l', el', h', _⟩ := head_filter (p := fun p => decide (wk B n p p = f)) hx (decide_eq_true e)
      rw [el] at el'
      cases el'
      exact h'
    rw [el]
    walk_at "rl"
    refine opq rfl rfl (ev_ix (a := ((0 : Nat) : Int)) (.inr (.inr rfl)) (atI_nat (v := natI s) rfl)) ?_
    have hw1 := wk_le (B := B) n s s
    obtain ⟨m, rfl⟩ : ∃ m, f = m + 1 := ⟨f - 1, by omega⟩
    obtain ⟨hM, hB⟩ := steps_some (by omega) hs hw h0 fle hfirst
    have hmn := isM_lt hs hM
    have hgo : m = 0 ∨ Go B n s m s := .inr hM.ex
    have hgl := gr_len (B := B) (n := n) (s := s) m s
    walk_at "rl"
    refine wp_forD (fun k ρ => ρ = [some (.val (tabB B n)), some (.val (.int (n : Int))), some (.own (.lst ((List.range n).map fun p => rowW B n n p))), some (.val (.int ((m + 1 : Nat) : Int))), some (.val (natI s)), some (.own (.lst ((s :: (gr B n s m s).take k).map natI))), none, none, none]) m (by omega) ?_ ?_ ?_
    · walk_at "rl"
      refine ⟨?_, ?_⟩
      · show some (Ct.pv (.int (((m + 1 : Nat) : Int) - 1))) = _
        rw [show ((m + 1 : Nat) : Int) - 1 = (m : Int) by omega]
      · walk_at "rl"
        exact ⟨rfl, rfl⟩
    · rintro k _ hk rfl
      obtain ⟨hg, hlt⟩ := go_at (B := B) (n := n) (s := s) (last := s) hk (hgo.resolve_left (by omega))
      have hgk := gr_step (B := B) (n := n) (s := s) (last := s) hk
      have htk := List.take_succ_eq_append_getElem (l := gr B n s m s) (i := k) (by rw [hgl]; exact hk)
      rw [hgk] at htk
      rw [htk]
      have hla := hlt hs
      have hTl : ((gr B n s m s).take k).length ≤ 8 := by rw [List.length_take]; omega
      generalize (gr B n s m s).take k = T at *
      have hat := lastD_at (l := s :: T) (by simp)
      generalize lastD (s :: T) = last at *
      unfold l6_law_least_ring
      walk_at "rl"
      refine wp_lcLT (ρ1 := [some (.val (tabB B n)), some (.val (.int (n : Int))), some (.own (.lst ((List.range n).map fun p => rowW B n n p))), some (.val (.int ((m + 1 : Nat) : Int))), some (.val (natI s)), some (.own (.lst ((s :: T).map natI))), some (.val (.int ((m - k : Nat) : Int))), none, none]) natI (rowB B n last) (fun o => lev B n s (m - k) o) natI (by simp) (by have := rowB_len (B := B) (n := n) (p := last); omega) ?_ ?_ ?_ ?_
      · walk_at "rl"
        refine opq rfl rfl (ev_ix (a := -1) (.inr (.inr rfl)) hat) ?_
        walk_at "rl"
        refine opq rfl rfl (ix_tab hla) ?_
        walk_at "rl"
        first | rfl | exact ⟨.inl rfl, rfl⟩
      · intro o ho
        dsimp only [set_s, set_z]
        unfold t5_law_least_ring
        walk_at "rl"
        refine opq rfl rfl (ix_own (p := o) (hrow ho).1) ?_
        walk_at "rl"
        refine opq rfl rfl (ix_rowW hs) ?_
        walk_at "rl"
        refine ⟨?_, rfl⟩
        rw [← lev_wk (by omega) hs (hrow ho).1 hM (show 1 ≤ m - k by omega) (by omega)]
        exact decide_eq_decide.mpr (by omega)
      · intro o ho
        dsimp only [set_s, set_z]
        unfold e4_law_least_ring
        walk_at "rl"
        first | rfl | exact ⟨rfl, rfl⟩
      have ef : (rowB B n last).filter (fun o => lev B n s (m - k) o) = (List.range n).filter fun o => B last o && lev B n s (m - k) o := by
        unfold rowB
        rw [List.filter_filter]
        refine List.filter_congr fun x _ => ?_
        rw [Bool.and_comm]
      rw [ef]
      obtain ⟨o, h1, h2, h3⟩ := hg
      obtain ⟨x, l, e, _⟩ := head_filter (p := fun o => B last o && lev B n s (m - k) o) h1 (by rw [h2, h3]; rfl)
      have ep : pickB B n s (m - k) last = x := by unfold pickB; rw [e]; rfl
      rw [e, ep]
      walk_at "rl"
      refine opq rfl rfl (ev_ix (a := ((0 : Nat) : Int)) (.inr (.inr rfl)) (atI_nat (v := natI x) rfl)) ?_
      walk_at "rl"
      apply appq (xs := (s :: T).map natI) rfl (by rw [List.length_map, List.length_cons]; omega)
      walk_at "set"
      walk_at "rl"
      rw [← List.cons_append, List.map_append, List.map_singleton]
    · rintro _ rfl
      rw [List.take_of_length_le (by omega)]
      walk_at "rl"
      exact q _ hB
end
end Py
namespace Py
open PySem D
local macro_rules
  | `(tactic| walk_at "w") => `(tactic| with_reducible first
    | refine seq_nx ?_ | refine seq_rt ?_ | refine seq_bk ?_ | refine seq_ct ?_ | refine wp_seq ?_ | refine wp_asg ?_ | refine wp_next ?_ | refine wp_ret ?_ | refine wp_retN ?_ | refine wp_brk ?_ | refine wp_cont ?_ | refine wp_expr ?_ | refine wp_op ?_ | refine wp_un ?_ | refine wp_c ?_
    | refine unB ?_ | refine wp_truB ?_ | refine wp_and ?_ | refine wp_or ?_ | refine wp_not ?_ | refine wp_ifE ?_ | refine wp_tup ?_ | refine wp_lst ?_ | refine wp_lcons ?_ | refine wp_lnil ?_ | refine frzV ?_ | refine frzN ?_ | refine wp_frz ?_ | refine wp_sl ?_ | refine wp_onone ?_ | refine wp_osome ?_
    | refine wp_anil ?_ | refine wp_av ?_ | refine wp_andV ?_ | refine wp_orV ?_ | refine wp_notV ?_ | refine wp_fgtR ?_ | refine turn_nx ?_ | refine turn_rt ?_ | refine turn_bk ?_ | refine turn_ct ?_ | refine fgt_rt ?_ | refine wp_par ?_ | refine wp_chain ?_ | refine wp_seqI ?_)
local macro_rules
  | `(tactic| walk_at "put") => `(tactic| focus ((repeat apply PutR.s); first | exact PutR.z rfl | exact PutR.z (by assumption)))
local macro_rules
  | `(tactic| walk_at "set") => `(tactic| focus ((repeat apply SetR.s); first | exact SetR.o | exact SetR.r))
local macro_rules
  | `(tactic| walk_at "fgt") => `(tactic| focus (repeat first | exact FgtsR.nil | exact FgtR.k | exact FgtR.z rfl | exact FgtR.z (by assumption) | apply FgtR.s | apply FgtsR.cons))
local macro_rules
  | `(tactic| walk_at "x") => `(tactic| first
    | ((with_reducible apply wp_varV); (focus exact rfl)) | ((with_reducible apply wp_varO); (focus exact rfl)) | ((with_reducible apply wp_varR); (focus exact rfl))
    | ((with_reducible apply opq); (focus exact rfl); (focus exact rfl); (focus (first | exact ev_eqI | exact ev_neI | exact ev_ltI | exact ev_leI | exact ev_gtI | exact ev_geI | exact ev_in2 | exact ev_in2n | exact ev_in4n | exact ev_isT | exact ev_isF | exact ev_isnT | exact ev_isnF | exact ev_eqQ0 | exact ev_eqQ1 | exact ev_eqQ | exact ev_neQ | exact ev_strT | exact ev_strF n1 | exact ev_strF n2 | exact ev_strF n3 | exact ev_strF n4 | exact ev_strF n5 | exact ev_strF n6 | exact rfl)))
    | ((with_reducible apply unq); (focus exact rfl); (focus exact rfl))
    | ((with_reducible first | apply putqV | apply putqN); walk_at "put")
    | ((with_reducible apply putqB); (focus exact rfl); (focus exact rfl); walk_at "put"; walk_at "put")
    | ((with_reducible apply putq2); walk_at "put"; walk_at "put")
    | ((with_reducible apply parq); walk_at "put"; walk_at "put")
    | ((with_reducible apply wp_callR); (focus (repeat first | exact RefsR.nil | apply RefsR.v | apply RefsR.r)); (focus decide))
    | ((with_reducible apply wp_ar); (focus exact rfl))
    | ((with_reducible apply fin_rt); (focus exact rfl); (focus exact rfl))
    | ((with_reducible apply fin_nx); (focus exact rfl))
    | ((with_reducible apply wp_appendR); (focus exact rfl))
    | (with_reducible refine ⟨_, rfl, ?_⟩) | (with_reducible refine ⟨_, .inl rfl, ?_⟩) | (with_reducible refine ⟨_, .inr (.inl rfl), ?_⟩) | (with_reducible refine ⟨_, .inr (.inr rfl), ?_⟩)
    | (with_reducible apply callq0) | ((with_reducible apply frzB); (focus exact rfl); (focus exact rfl); walk_at "put")
    | ((with_reducible apply callq1); walk_at "set")
    | ((with_reducible apply callq2); walk_at "set"; walk_at "set")
    | ((with_reducible first | apply fgt_nx | apply fgt_bk | apply fgt_ct); walk_at "fgt")
    | ((with_reducible apply brT); (focus exact rfl)) | ((with_reducible apply brF); (focus exact rfl)))
local macro_rules
  | `(tactic| walk_at "r") => `(tactic| repeat first | walk_at "w" | walk_at "x")
local macro_rules
  | `(tactic| walk_at "ri") => `(tactic| repeat first | walk_at "w" | walk_at "x" | (with_reducible refine wp_if ?_))
local macro_rules
  | `(tactic| walk_at "app") => `(tactic| ((with_reducible apply appq); (focus exact rfl); (focus ((try simp only [List.length_map, List.length_nil, List.length_cons, List.length_append]); unfold line; omega)); walk_at "set"))
local macro_rules
  | `(tactic| walk_at "mul") => `(tactic| ((refine opq rfl rfl (ev_mul ?_) ?_); (focus (apply mulT <;> omega))))
local macro_rules
  | `(tactic| walk_at "rm") => `(tactic| repeat first | walk_at "w" | walk_at "x" | walk_at "mul")
local macro_rules
  | `(tactic| walk_at "len") => `(tactic| (refine And.intro ?_ ?_; (focus (simp [line]; done))))
local macro_rules
  | `(tactic| walk_at "rl") => `(tactic| repeat first | walk_at "w" | walk_at "x" | walk_at "len")
local macro_rules
  | `(tactic| walk_at "ril") => `(tactic| repeat first | walk_at "w" | walk_at "x" | walk_at "len" | (with_reducible refine wp_if ?_))
/-! QRj: the first ring of all rows, walked. -/
section
variable {Q : R → List Ob → Prop} {B : Nat → Nat → Bool} {n s : Nat}
theorem ext_len {row : List Nat} : (extB B n row).length ≤ n := by
  unfold extB
  rw [List.length_map]
  refine Nat.le_trans (List.length_filter_le _ _) ?_
  rw [List.length_range]
  exact Nat.le_refl _
theorem flat_ext {rows : List (List Nat)} : (rows.flatMap (extB B n)).length ≤ rows.length * n := by
  induction rows with
  | nil => simp
  | cons r rows ih =>
    rw [List.flatMap_cons, List.length_append, List.length_cons, Nat.add_mul, Nat.one_mul]
    have := ext_len (B := B) (n := n) (row := r)
    omega
theorem rows_len (hn : n ≤ 5) : ∀ k, (rowsB B n k).length ≤ 5 ^ k
  | 0 => Nat.le_refl 1
  | k + 1 => by
    unfold rowsB
    refine Nat.le_trans flat_ext ?_
    rw [Nat.pow_succ]
    exact Nat.mul_le_mul (rows_len hn k) hn
theorem not_list {a : Nat} {qs : List Nat} {c : Ct} (h : c.seq? = some (qs.map natI)) : fIn true (.pv (natI a)) c = some (.val (.bool (!decide (a ∈ qs)))) := by
  have e : qs.map natI = (qs.map fun q : Nat => (q : Int)).map PyData.int := by rw [List.map_map]; rfl
  rw [e] at h
  rw [show natI a = .int (a : Int) from rfl, ev_inT h]
  have : (a : Int) ∈ qs.map (fun q : Nat => (q : Int)) ↔ a ∈ qs := by
    rw [List.mem_map]
    exact ⟨fun ⟨x, h, e⟩ => by rw [← show x = a by omega]; exact h, fun h => ⟨a, h, rfl⟩⟩
  rw [decide_eq_decide.mpr this]
theorem in_rowB {p k : Nat} (hk : k < n) : decide (k ∈ rowB B n p) = B p k := by
  unfold rowB
  rw [Bool.eq_iff_iff, decide_eq_true_iff, List.mem_filter]
  exact ⟨fun h => h.2, fun h => ⟨List.mem_range.mpr hk, h⟩⟩
theorem lastD_lt {row : List Nat} (h : row ≠ []) (hr : ∀ y ∈ row, y < n) : lastD row < n := by
  have : lastD row = row.getLast h := by
    unfold lastD
    rw [List.getLastD_eq_getLast?, List.getLast?_eq_some_getLast h]
    rfl
  rw [this]
  exact hr _ (List.getLast_mem h)
def extP (B : Nat → Nat → Bool) (row : List Nat) (x : Nat) : Bool := !decide (x ∈ row) && (decide (row.length = 0) || B (lastD row) x)
theorem ext_loop {v1 v2 : Option Sl} {row : List Nat} {acc : List (List Nat)} (hn : n ≤ 5) (hrow : ∀ y ∈ row, y < n) (hrl : row.length ≤ 10) (hacc : acc.length ≤ 10000) {QS : Fl → Env → Prop}
    (q : QS .nx [some (.val (tabB B n)), v1, v2, some (.own (.lst ((acc ++ extB B n row).map tupB))), none, none]) :
    Wp l2_law_first_ring [some (.val (tabB B n)), v1, v2, some (.own (.lst (acc.map tupB))), some (.val (tupB row)), none] QS := by
  have hln : (line : Nat) = 16777216 := rfl
  unfold l2_law_first_ring
  walk_at "rl"
  refine wp_forN (fun j ρ => ρ = [some (.val (tabB B n)), v1, v2, some (.own (.lst ((acc ++ ((List.range j).filter (extP B row)).map fun x => row ++ [x]).map tupB))), some (.val (tupB row)), none]) n ?_ ?_ ?_
  · walk_at "rl"
    rw [List.length_map, List.length_range]
    exact ⟨rfl, by omega, by simp⟩
  · rintro j _ hj rfl
    have hfl := List.length_filter_le (extP B row) (List.range j)
    rw [List.length_range] at hfl
    have es : acc ++ ((List.range (j + 1)).filter (extP B row)).map (fun x => row ++ [x]) = (acc ++ ((List.range j).filter (extP B row)).map fun x => row ++ [x]) ++ ([j].filter (extP B row)).map fun x => row ++ [x] := by
      rw [List.range_succ, List.filter_append, List.map_append, List.append_assoc]
    rw [es]
    have hal : (acc ++ ((List.range j).filter (extP B row)).map fun x => row ++ [x]).length ≤ 10005 := by rw [List.length_append, List.length_map]; omega
    generalize acc ++ ((List.range j).filter (extP B row)).map (fun x => row ++ [x]) = A at *
    unfold l1_law_first_ring
    have ht : Wp (mAnd (mB (mOp (fIn true) (mVar 5) (mVar 4))) (mOr (mB (mOp fEq (mUn fLen (mVar 4)) (mC (.int 0)))) (mB (mOp (fIn false) (mVar 5) (mOp fIx (mVar 0) (mOp fIx (mVar 4) (mUn fNeg (mC (.int 1))))))))) [some (.val (tabB B n)), v1, v2, some (.own (.lst (A.map tupB))), some (.val (tupB row)), some (.val (natI j))] fun b ρ' => b = extP B row j ∧ ρ' = [some (.val (tabB B n)), v1, v2, some (.own (.lst (A.map tupB))), some (.val (tupB row)), some (.val (natI j))] := by
      walk_at "rl"
      refine opq rfl rfl (not_list (a := j) (qs := row) rfl) ?_
      walk_at "rl"
      refine ⟨fun h1 => ?_, fun h1 => ?_⟩
      · walk_at "rl"
        rw [List.length_map]
        refine ⟨fun h2 => ?_, fun h2 => ?_⟩
        · have h2' : row.length = 0 := by have := of_decide_eq_true h2; omega
          refine ⟨?_, rfl⟩
          unfold extP
          rw [h1, decide_eq_true h2']
          rfl
        · have h2' : ¬ row.length = 0 := by have := of_decide_eq_false h2; omega
          have hne : row ≠ [] := fun e => h2' (by rw [e]; rfl)
          walk_at "rl"
          refine opq rfl rfl (ev_ix (a := -1) (.inl rfl) (lastD_at hne)) ?_
          walk_at "rl"
          refine opq rfl rfl (ix_tab (lastD_lt hne hrow)) ?_
          walk_at "rl"
          refine opq rfl rfl (in_list (a := j) (qs := rowB B n (lastD row)) rfl) ?_
          walk_at "rl"
          refine ⟨?_, rfl⟩
          unfold extP
          rw [in_rowB hj, h1, decide_eq_false h2']
          simp
      · refine ⟨?_, rfl⟩
        unfold extP
        rw [h1]
        rfl
    walk_at "rl"
    refine wp_if (ht.mono fun b ρ' ⟨e1, e2⟩ => ?_)
    subst e1 e2
    refine ⟨fun h => ?_, fun h => ?_⟩
    · walk_at "rl"
      refine opq rfl rfl (ev_addT (by rw [List.length_map, List.length_singleton]; omega)) ?_
      walk_at "rl"
      apply appq (xs := A.map tupB) rfl (by rw [List.length_map]; omega)
      walk_at "set"
      walk_at "rl"
      rw [List.filter_cons, if_pos h, List.filter_nil, List.map_singleton, List.map_append (l₁ := A), List.map_singleton]
      rw [show tupB (row ++ [j]) = PyData.tuple (row.map natI ++ [PyData.int (j : Int)]) by rw [tupB, List.map_append]; rfl]
      try rfl
    · walk_at "rl"
      rw [List.filter_cons, if_neg (by rw [h]; decide), List.filter_nil, List.map_nil, List.append_nil]
      try rfl
  · rintro _ rfl
    walk_at "rl"
    exact q
theorem of_first (hn : n ≤ 5) (q : ∀ r, Best B n r → Q (.val (optB r)) []) : Ret d_law_first_ring [.val (tabB B n)] Q := by
  have hln : (line : Nat) = 16777216 := rfl
  refine ret_mkR (by repeat constructor) ?_
  unfold b_law_first_ring
  walk_at "rl"
  refine wp_forN (fun k ρ => (∀ j, j < k → ∀ r ∈ rowsB B n (j + 1), clo B r = false) ∧ ∃ v1, OwnL ((rowsB B n k).map tupB) v1 ∧ ρ = [some (.val (tabB B n)), some v1, none, none, none, none]) n ?_ ?_ ?_
  · walk_at "rl"
    rw [List.length_map, List.length_range]
    exact ⟨rfl, by omega, (fun j hj => by omega), _, .inl rfl, rfl⟩
  · rintro k _ hk ⟨hno, v1, hv, rfl⟩
    have hrl := rows_len (B := B) hn k
    have h5 : 5 ^ k ≤ 5 ^ 4 := Nat.pow_le_pow_right (by decide) (by omega)
    have hmem : ∀ r, r ∈ rowsB B n k → r.length = k ∧ ∀ y ∈ r, y < n := fun r hr => by
      obtain ⟨h1, _, h3, _⟩ := rows_mem.mp hr
      exact ⟨h1, h3⟩
    unfold l4_law_first_ring
    walk_at "rl"
    have key : ∀ QS : Fl → Env → Prop, QS .nx [some (.val (tabB B n)), some (.val (.list ((rowsB B n k).map tupB))), some (.val (natI k)), some (.own (.lst ((rowsB B n (k + 1)).map tupB))), none, none] → Wp (sFor (iSeq (mFrz (mVar 1))) (gName 4) l2_law_first_ring) [some (.val (tabB B n)), some v1, some (.val (natI k)), some (.own (.lst [])), none, none] QS := by
      intro QS qs
      have e : rowsB B n (k + 1) = (rowsB B n k).flatMap (extB B n) := rfl
      rw [e] at qs
      generalize rowsB B n k = S at *
      refine wp_forL (fun i ρ => ρ = [some (.val (tabB B n)), some (.val (.list (S.map tupB))), some (.val (natI k)), some (.own (.lst (((S.take i).flatMap (extB B n)).map tupB))), none, none]) (S.map tupB) ?_ ?_ ?_
      · rcases id hv with rfl | rfl
        all_goals
          walk_at "rl"
          first | rfl | exact ⟨.inl rfl, rfl⟩
      · rintro i hi _ rfl
        rw [List.length_map] at hi
        have e : (S.map tupB)[i]'(by rw [List.length_map]; exact hi) = tupB S[i] := by simp
        obtain ⟨m1, m2⟩ := hmem _ (List.getElem_mem hi)
        have hfl := flat_ext (B := B) (n := n) (rows := S.take i)
        have hfl2 : (S.take i).length * n ≤ 625 * 5 := Nat.mul_le_mul (by rw [List.length_take]; omega) hn
        rw [e, List.take_succ_eq_append_getElem hi, List.flatMap_append, List.flatMap_cons, List.flatMap_nil, List.append_nil]
        generalize S[i] = row at *
        generalize (S.take i).flatMap (extB B n) = acc at *
        walk_at "rl"
        refine ext_loop hn m2 (by omega) (by omega) ?_
        walk_at "rl"
        try rfl
      · rintro _ rfl
        rw [List.length_map, List.take_length]
        exact qs
    refine key _ ?_
    have hmem2 : ∀ r, r ∈ rowsB B n (k + 1) → r ≠ [] ∧ (∀ y ∈ r, y < n) := fun r hr => by
      obtain ⟨h1, _, h3, _⟩ := rows_mem.mp hr
      exact ⟨(fun e => by rw [e] at h1; cases h1), h3⟩
    have hfb := fun r => first_best (B := B) (n := n) (m := k) (r := r) hno
    have hlast : (∀ r ∈ rowsB B n (k + 1), clo B r = false) → ∀ j, j < k + 1 → ∀ r ∈ rowsB B n (j + 1), clo B r = false := fun h j hj r hr => by
      by_cases c : j = k
      · subst c; exact h r hr
      · exact hno j (by omega) r hr
    generalize rowsB B n (k + 1) = S at *
    walk_at "rl"
    refine wp_forL (fun i ρ => (∀ r ∈ S.take i, clo B r = false) ∧ ρ = [some (.val (tabB B n)), some (.val (.list ((rowsB B n k).map tupB))), some (.val (natI k)), some (.val (.list (S.map tupB))), none, none]) (S.map tupB) ?_ ?_ ?_
    · walk_at "rl"
      first | rfl | exact ⟨fun r hr => (by cases hr), rfl⟩ | exact ⟨.inl rfl, fun r hr => (by cases hr), rfl⟩
    · rintro i hi _ ⟨hpre, rfl⟩
      rw [List.length_map] at hi
      have e : (S.map tupB)[i]'(by rw [List.length_map]; exact hi) = tupB S[i] := by simp
      obtain ⟨m1, m2⟩ := hmem2 _ (List.getElem_mem hi)
      have hfind : clo B S[i] = true → S.find? (clo B) = some S[i] := fun h => by
        refine List.find?_eq_some_iff_append.mpr ⟨h, S.take i, S.drop (i + 1), ?_, fun a ha => by rw [hpre a ha]; rfl⟩
        rw [← List.drop_eq_getElem_cons hi, List.take_append_drop]
      rw [e, List.take_succ_eq_append_getElem hi]
      generalize S[i] = row at *
      obtain ⟨x, l, rfl⟩ : ∃ x l, row = x :: l := by
        cases row with
        | nil => exact absurd rfl m1
        | cons x l => exact ⟨x, l, rfl⟩
      have hx := m2 x (List.mem_cons_self ..)
      unfold l3_law_first_ring
      walk_at "ril"
      refine opq rfl rfl (ev_ix (a := ((0 : Nat) : Int)) (.inl rfl) (atI_nat (v := natI x) rfl)) ?_
      walk_at "ril"
      refine opq rfl rfl (ev_ix (a := -1) (.inl rfl) (lastD_at m1)) ?_
      walk_at "ril"
      refine opq rfl rfl (ix_tab (lastD_lt m1 m2)) ?_
      walk_at "ril"
      refine opq rfl rfl (in_list (a := x) (qs := rowB B n (lastD (x :: l))) rfl) ?_
      rw [in_rowB hx]
      walk_at "ril"
      refine ⟨fun h => ?_, fun h => ?_⟩
      · walk_at "ril"
        exact q (some (x :: l)) (hfb _ (hfind h))
      · walk_at "ril"
        refine ⟨fun r hr => ?_, rfl⟩
        rcases List.mem_append.mp hr with hr | hr
        · exact hpre r hr
        · rw [List.mem_singleton.mp hr]; exact h
    · rintro _ ⟨hpre, rfl⟩
      rw [List.length_map, List.take_length] at hpre
      walk_at "rl"
      exact ⟨hlast hpre, _, .inr rfl, rfl⟩
  · rintro _ ⟨hno, v1, hv, rfl⟩
    rcases id hv with rfl | rfl
    all_goals
      walk_at "rl"
      exact q none (first_none hno)
end
end Py
namespace Py
open PySem D
local macro_rules
  | `(tactic| walk_at "w") => `(tactic| with_reducible first
    | refine seq_nx ?_ | refine seq_rt ?_ | refine seq_bk ?_ | refine seq_ct ?_ | refine wp_seq ?_ | refine wp_asg ?_ | refine wp_next ?_ | refine wp_ret ?_ | refine wp_retN ?_ | refine wp_brk ?_ | refine wp_cont ?_ | refine wp_expr ?_ | refine wp_op ?_ | refine wp_un ?_ | refine wp_c ?_
    | refine unB ?_ | refine wp_truB ?_ | refine wp_and ?_ | refine wp_or ?_ | refine wp_not ?_ | refine wp_ifE ?_ | refine wp_tup ?_ | refine wp_lst ?_ | refine wp_lcons ?_ | refine wp_lnil ?_ | refine frzV ?_ | refine frzN ?_ | refine wp_frz ?_ | refine wp_sl ?_ | refine wp_onone ?_ | refine wp_osome ?_
    | refine wp_anil ?_ | refine wp_av ?_ | refine wp_andV ?_ | refine wp_orV ?_ | refine wp_notV ?_ | refine wp_fgtR ?_ | refine turn_nx ?_ | refine turn_rt ?_ | refine turn_bk ?_ | refine turn_ct ?_ | refine fgt_rt ?_ | refine wp_par ?_ | refine wp_chain ?_ | refine wp_seqI ?_)
local macro_rules
  | `(tactic| walk_at "put") => `(tactic| focus ((repeat apply PutR.s); first | exact PutR.z rfl | exact PutR.z (by assumption)))
local macro_rules
  | `(tactic| walk_at "set") => `(tactic| focus ((repeat apply SetR.s); first | exact SetR.o | exact SetR.r))
local macro_rules
  | `(tactic| walk_at "fgt") => `(tactic| focus (repeat first | exact FgtsR.nil | exact FgtR.k | exact FgtR.z rfl | exact FgtR.z (by assumption) | apply FgtR.s | apply FgtsR.cons))
local macro_rules
  | `(tactic| walk_at "x") => `(tactic| first
    | ((with_reducible apply wp_varV); (focus exact rfl)) | ((with_reducible apply wp_varO); (focus exact rfl)) | ((with_reducible apply wp_varR); (focus exact rfl))
    | ((with_reducible apply opq); (focus exact rfl); (focus exact rfl); (focus (first | exact ev_eqI | exact ev_neI | exact ev_ltI | exact ev_leI | exact ev_gtI | exact ev_geI | exact ev_in2 | exact ev_in2n | exact ev_in4n | exact ev_isT | exact ev_isF | exact ev_isnT | exact ev_isnF | exact ev_eqQ0 | exact ev_eqQ1 | exact ev_eqQ | exact ev_neQ | exact ev_strT | exact ev_strF n1 | exact ev_strF n2 | exact ev_strF n3 | exact ev_strF n4 | exact ev_strF n5 | exact ev_strF n6 | exact rfl)))
    | ((with_reducible apply unq); (focus exact rfl); (focus exact rfl))
    | ((with_reducible first | apply putqV | apply putqN); walk_at "put")
    | ((with_reducible apply putqB); (focus exact rfl); (focus exact rfl); walk_at "put"; walk_at "put")
    | ((with_reducible apply putq2); walk_at "put"; walk_at "put")
    | ((with_reducible apply parq); walk_at "put"; walk_at "put")
    | ((with_reducible apply wp_callR); (focus (repeat first | exact RefsR.nil | apply RefsR.v | apply RefsR.r)); (focus decide))
    | ((with_reducible apply wp_ar); (focus exact rfl))
    | ((with_reducible apply fin_rt); (focus exact rfl); (focus exact rfl))
    | ((with_reducible apply fin_nx); (focus exact rfl))
    | ((with_reducible apply wp_appendR); (focus exact rfl))
    | (with_reducible refine ⟨_, rfl, ?_⟩) | (with_reducible refine ⟨_, .inl rfl, ?_⟩) | (with_reducible refine ⟨_, .inr (.inl rfl), ?_⟩) | (with_reducible refine ⟨_, .inr (.inr rfl), ?_⟩)
    | (with_reducible apply callq0) | ((with_reducible apply frzB); (focus exact rfl); (focus exact rfl); walk_at "put")
    | ((with_reducible apply callq1); walk_at "set")
    | ((with_reducible apply callq2); walk_at "set"; walk_at "set")
    | ((with_reducible first | apply fgt_nx | apply fgt_bk | apply fgt_ct); walk_at "fgt")
    | ((with_reducible apply brT); (focus exact rfl)) | ((with_reducible apply brF); (focus exact rfl)))
local macro_rules
  | `(tactic| walk_at "r") => `(tactic| repeat first | walk_at "w" | walk_at "x")
local macro_rules
  | `(tactic| walk_at "ri") => `(tactic| repeat first | walk_at "w" | walk_at "x" | (with_reducible refine wp_if ?_))
local macro_rules
  | `(tactic| walk_at "app") => `(tactic| ((with_reducible apply appq); (focus exact rfl); (focus ((try simp only [List.length_map, List.length_nil, List.length_cons, List.length_append]); unfold line; omega)); walk_at "set"))
local macro_rules
  | `(tactic| walk_at "mul") => `(tactic| ((refine opq rfl rfl (ev_mul ?_) ?_); (focus (apply mulT <;> omega))))
local macro_rules
  | `(tactic| walk_at "rm") => `(tactic| repeat first | walk_at "w" | walk_at "x" | walk_at "mul")
local macro_rules
  | `(tactic| walk_at "len") => `(tactic| (refine And.intro ?_ ?_; (focus (simp [line]; done))))
local macro_rules
  | `(tactic| walk_at "rl") => `(tactic| repeat first | walk_at "w" | walk_at "x" | walk_at "len")
local macro_rules
  | `(tactic| walk_at "ril") => `(tactic| repeat first | walk_at "w" | walk_at "x" | walk_at "len" | (with_reducible refine wp_if ?_))
/-! QRk: the dice, walked. -/
section
variable {Q : R → List Ob → Prop} {ds : List Int}
theorem ixB {n k : Nat} (h : k < n) : ixN n (k : Int) = some k := by
  unfold ixN
  rw [if_pos (by omega), if_pos (by omega)]
  simp
theorem wp_popB {a : M} {i : Nat} {ρ : Env} {Q : R → Env → Prop} {xs : List PV} (h0 : lstAt ρ i = some xs) (h : Wp a ρ fun x ρ1 => ∃ (k : Nat) (ys : List PV) (v : PV) (ρ2 : Env), look x ρ1 = some (.pv (.int (k : Int))) ∧ lstAt ρ1 i = some ys ∧ ys[k]? = some v ∧ k < 2 ^ 60 ∧ SetR ρ1 i (.lst (ys.eraseIdx k)) ρ2 ∧ Q (.val v) ρ2) : Wp (mPopAt i a) ρ Q := by
  refine wp_popAt h0 (h.mono fun x ρ1 ⟨k, ys, v, ρ2, e1, e2, e3, e4, e5, q⟩ => ?_)
  have hk : k < ys.length := (List.getElem?_eq_some_iff.mp e3).1
  exact ⟨(k : Int), ys, k, v, e1, e2, by omega, ixB hk, e3, e5.eq ▸ q⟩
theorem eraseB {α β : Type} (f : α → β) : ∀ (L : List α) (j : Nat), (L.map f).eraseIdx j = (L.eraseIdx j).map f
  | [], _ => rfl
  | _ :: _, 0 => rfl
  | x :: L, j + 1 => by
    rw [List.map_cons, List.eraseIdx_cons_succ, List.eraseIdx_cons_succ, List.map_cons, eraseB f L j]
/-- a loop over range(a) whose bound is known only behind a -/
theorem wp_rngX {a : M} {m : MG} {s : SM} {ρ : Env} {QS : Fl → Env → Prop}
    (h : Wp a ρ fun x ρ1 => ∃ n : Nat, look x ρ1 = some (.pv (.int (n : Int))) ∧ n ≤ line ∧ ∃ P : Nat → Env → Prop, P 0 ρ1 ∧ (∀ k ρ, k < n → P k ρ → PutQ m (.val (.int k)) ρ fun ρ1 => Wp s ρ1 (TurnQ (P (k + 1)) QS)) ∧ (∀ ρ, P n ρ → QS .nx ρ)) : Wp (sFor (iRng1 a) m s) ρ QS := by
  refine wp_for (wp_rng1 (h.mono fun x ρ1 ⟨n, e, hz, P, h0, step, hd⟩ => ⟨n, e, ⟨by exact_mod_cast hz, by omega⟩, ?_⟩))
  refine wp_loopK P h0 (fun k hk ρ p => ?_) (fun ρ p => hd ρ ?_)
  · simp at hk
    simpa using step k ρ hk p
  · simpa using p
def thV : List (List Int) := [[2, 2, 4, 4, 9, 9], [1, 1, 6, 6, 8, 8], [3, 3, 5, 5, 7, 7]]
def foV : List (List Int) := [[1, 3, 6, 6, 6, 6], [5, 5, 5, 5, 5, 5], [3, 3, 3, 3, 8, 8], [2, 2, 2, 7, 7, 7]]
theorem of_known (q : ∀ (F : List (List Int)) ds', F.length ≤ 5 → (∀ d ∈ F, d.length ≤ 12) → Q (.new (.lst (F.map tupI))) [intsO ds']) : Ret d_law_known_k52_2 [.ref (intsO ds)] Q := by
  have hln : (line : Nat) = 16777216 := rfl
  refine ret_mkR (by repeat constructor) ?_
  unfold b_law_known_k52_2
  walk_at "rl"
  refine of_take (by decide) fun a ds ha1 ha2 => ?_
  walk_at "rl"
  refine of_take (by decide) fun b ds hb1 hb2 => ?_
  walk_at "rl"
  refine wp_lc tupI (fun done acc ρ => ∃ (F : List (List Int)) (ds : List Int) (u : Option Sl), acc = F.map tupI ∧ F.length = done.length ∧ (∀ d ∈ F, d.length ≤ 12) ∧ isRef u = false ∧ ρ = [some (.ref (intsO ds)), some (.val (.list (thV.map tupI))), some (.val (.list (foV.map tupI))), some (.val (.int (1 + a))), some (.val (.int b)), u, none]) ?_
  refine wp_seqI ?_
  walk_at "rl"
  refine of_take (by decide) fun i ds hi1 hi2 => ?_
  have hix : ∃ L : List (List Int), L.length ≤ 5 ∧ (∀ d ∈ L, d.length ≤ 12 ∧ ∀ z ∈ d, z.natAbs < 2 ^ 10) ∧ fIx (.ob (.lst [.list (thV.map tupI), .list (foV.map tupI), .list ((thV ++ foV.take 2).map tupI)])) (.pv (.int i)) = some (.val (.list (L.map tupI))) := by
    obtain rfl | rfl | rfl : i = 0 ∨ i = 1 ∨ i = 2 := by omega
    · exact ⟨thV, by decide, by decide, rfl⟩
    · exact ⟨foV, by decide, by decide, rfl⟩
    · exact ⟨thV ++ foV.take 2, by decide, by decide, rfl⟩
  obtain ⟨L, hL, hLm, hix⟩ := hix
  walk_at "rl"
  refine opq rfl rfl hix ?_
  walk_at "rl"
  refine ⟨by omega, ⟨[], ds, none, rfl, rfl, (fun d hd => by cases hd), rfl, rfl⟩, ?_, ?_⟩
  · rintro done y rest acc _ e ⟨F, ds, u, rfl, h1, h2, hu, rfl⟩
    have hy := hLm y (by rw [e]; simp)
    refine lcqY rfl ?_
    dsimp only [wipe, set_s, set_z]
    walk_at "rl"
    unfold e2_law_known_k52_2
    walk_at "rl"
    refine wp_lcLT (ρ1 := [some (.ref (intsO ds)), some (.val (.list (thV.map tupI))), some (.val (.list (foV.map tupI))), some (.val (.int (1 + a))), some (.val (.int b)), some (.val (tupI y)), none]) PyData.int y (fun _ => true) (fun z => .int (z * (1 + a) + b)) (by simp) (by omega) ?_ ?_ ?_ ?_
    · walk_at "rl"
      first | rfl | exact ⟨.inr (.inl rfl), rfl⟩
    · intro x hx
      exact ⟨_, _, rfl, rfl, rfl⟩
    · intro z hz
      dsimp only [set_s, set_z]
      unfold e1_law_known_k52_2
      walk_at "rl"
      refine opq rfl rfl (ev_mul (mulOk_of 10 10 (hy.2 z hz) (by omega) (by omega))) ?_
      walk_at "rl"
      first | rfl | exact ⟨rfl, rfl⟩
    rw [List.filter_eq_self.mpr (show ∀ a ∈ y, (fun _ => true) a = true from fun _ _ => rfl)]
    have es : (y.map fun z => PyData.int (z * (1 + a) + b)) = (y.map fun z => z * (1 + a) + b).map PyData.int := by rw [List.map_map]; rfl
    rw [es]
    walk_at "rl"
    refine unq rfl ev_sortI ?_
    walk_at "rl"
    refine ⟨F ++ [isort (y.map fun z => z * (1 + a) + b)], ds, _, by rw [List.map_append]; rfl, by simp [h1], fun d hd => ?_, rfl, rfl⟩
    rcases List.mem_append.mp hd with hd | hd
    · exact h2 d hd
    · rw [List.mem_singleton.mp hd, isort_len, List.length_map]
      exact hy.1
  · rintro acc _ ⟨F, ds, u, rfl, h1, h2, hu, rfl⟩
    dsimp only [back, set_s, set_z, get_s, get_z]
    walk_at "rl"
    exact q F ds (by omega) h2
theorem of_dice52 (q : ∀ (D : List (List Int)) ds', Dcs D → Q (.val (diceV D)) [intsO ds']) : Ret d_law_dice_k52 [.ref (intsO ds)] Q := by
  have hln : (line : Nat) = 16777216 := rfl
  refine ret_mkR (by repeat constructor) ?_
  unfold b_law_dice_k52
  walk_at "rl"
  refine wp_mid (fun ρ => ∃ (F : List (List Int)) (ds : List Int), F.length ≤ 5 ∧ (∀ d ∈ F, d.length ≤ 12) ∧ ρ = [some (.ref (intsO ds)), some (.own (.lst (F.map tupI))), none, none, none]) ?_ ?_
  · walk_at "ril"
    refine of_take (by decide) fun x ds _ _ => ?_
    walk_at "ril"
    refine ⟨fun _ => ?_, fun _ => ?_⟩
    · walk_at "ril"
      refine of_known fun F ds hF1 hF2 => ?_
      walk_at "ril"
      exact ⟨F, ds, hF1, hF2, rfl⟩
    · walk_at "ril"
      exact ⟨[], ds, by simp, by simp, rfl⟩
  rintro _ ⟨F, ds, hF1, hF2, rfl⟩
  walk_at "rl"
  refine wp_rngX ?_
  walk_at "rl"
  refine of_take (by decide) fun c ds hc1 hc2 => ?_
  obtain ⟨c, rfl⟩ := Int.eq_ofNat_of_zero_le hc1
  refine ⟨c, rfl, by omega, fun k ρ => ∃ (F : List (List Int)) (ds : List Int), F.length ≤ 5 + k ∧ (∀ d ∈ F, d.length ≤ 12) ∧ ρ = [some (.ref (intsO ds)), some (.own (.lst (F.map tupI))), none, none, none], ⟨F, ds, by omega, hF2, rfl⟩, ?_, ?_⟩
  · rintro k _ hk ⟨F, ds, hF1, hF2, rfl⟩
    unfold l1_law_dice_k52
    walk_at "ril"
    refine of_take (by decide) fun y ds hy1 hy2 => ?_
    walk_at "ril"
    have die : ∀ QS : Fl → Env → Prop, (∀ (xs : List Int) ds, xs.length ≤ 12 → QS .nx [some (.ref (intsO ds)), some (.own (.lst ((F ++ [xs]).map tupI))), some (.val (.int (k : Int))), none, some (.val (.int y))]) → Wp (sExpr (mAppend 1 (mCall d_law_die [Ag.r 0, Ag.v (mOp fAdd (mC (PyData.int 1)) (mCall d_law_take [Ag.r 0, Ag.v (mOp fIx (mLst (lCons (mC (PyData.int 3)) (lCons (mC (PyData.int 6)) lNil))) (mCall d_law_take [Ag.r 0, Ag.v (mC (PyData.int 2))]))])), Ag.v (mC (PyData.int 12))]))) [some (.ref (intsO ds)), some (.own (.lst (F.map tupI))), some (.val (.int (k : Int))), none, some (.val (.int y))] QS := by
      intro QS qs
      walk_at "rl"
      refine of_take (by decide) fun i ds hi1 hi2 => ?_
      walk_at "rl"
      obtain ⟨w, hw, hat⟩ := pickI (xs := [3, 6]) hi1 (by simpa using hi2)
      refine opq rfl rfl (ev_ix (.inr (.inr rfl)) hat) ?_
      have hw2 : 3 ≤ w ∧ w ≤ 6 := by
        simp only [List.mem_cons, List.not_mem_nil, or_false] at hw
        omega
      walk_at "rl"
      refine of_take (by omega) fun z ds hz1 hz2 => ?_
      walk_at "rl"
      refine of_die (by omega) (by omega) (by decide) (by decide) fun xs ds hx hxl => ?_
      walk_at "rl"
      apply appq (xs := F.map tupI) rfl (by rw [List.length_map]; omega)
      walk_at "set"
      walk_at "rl"
      have := qs xs ds hx.len
      rw [List.map_append, List.map_singleton] at this
      exact this
    refine ⟨fun h1 => ?_, fun h1 => ?_⟩
    · walk_at "rl"
      refine ⟨fun h2 => ?_, fun h2 => ?_⟩
      · have h0 : 0 < F.length := by have := of_decide_eq_true h2; rw [List.length_map] at this; omega
        walk_at "rl"
        rw [List.length_map]
        refine of_take (by omega) fun z ds hz1 hz2 => ?_
        obtain ⟨z, rfl⟩ := Int.eq_ofNat_of_zero_le hz1
        have hz : z < F.length := by omega
        walk_at "rl"
        refine opq rfl rfl (ev_ix (a := (z : Int)) (.inr (.inr rfl)) (atI_nat (v := tupI F[z]) (by simp [hz]))) ?_
        walk_at "rl"
        apply appq (xs := F.map tupI) rfl (by rw [List.length_map]; omega)
        walk_at "set"
        walk_at "rl"
        refine ⟨F ++ [F[z]], ds, by simp; omega, fun d hd => ?_, by rw [List.map_append]; rfl⟩
        rcases List.mem_append.mp hd with hd | hd
        · exact hF2 d hd
        · rw [List.mem_singleton.mp hd]; exact hF2 _ (List.getElem_mem hz)
      · refine die _ fun xs ds hx => ?_
        walk_at "rl"
        refine ⟨F ++ [xs], ds, by simp; omega, fun d hd => ?_, rfl⟩
        rcases List.mem_append.mp hd with hd | hd
        · exact hF2 d hd
        · rw [List.mem_singleton.mp hd]; exact hx
    · refine ⟨fun z => Bool.noConfusion z, fun _ => ?_⟩
      refine die _ fun xs ds hx => ?_
      walk_at "rl"
      refine ⟨F ++ [xs], ds, by simp; omega, fun d hd => ?_, rfl⟩
      rcases List.mem_append.mp hd with hd | hd
      · exact hF2 d hd
      · rw [List.mem_singleton.mp hd]; exact hx
  · rintro _ ⟨F, ds, hF1, hF2, rfl⟩
    walk_at "rl"
    have ec : cut (F.map tupI) none (some 8) = (F.take 8).map tupI := by
      rw [cut_map]
      congr 1
      unfold cut
      simp only [sIx, if_neg (show ¬ ((8 : Int) < 0) by omega), List.drop_zero, Nat.sub_zero]
      rw [show (8 : Int).toNat = 8 from rfl, Nat.min_def]
      split
      · rfl
      · rw [List.take_length, List.take_of_length_le (by omega)]
    rw [ec]
    have hG : (F.take 8).length ≤ 8 := by rw [List.length_take]; omega
    have hGm : ∀ d ∈ F.take 8, d.length ≤ 12 := fun d hd => hF2 d (List.mem_of_mem_take hd)
    generalize F.take 8 = G at *
    refine wp_forN (fun j ρ => ∃ (le fo : List (List Int)) (ds : List Int), le.length + j = G.length ∧ fo.length = j ∧ (∀ d ∈ le, d.length ≤ 12) ∧ (∀ d ∈ fo, d.length ≤ 12) ∧ ρ = [some (.ref (intsO ds)), some (.own (.lst (le.map tupI))), none, some (.own (.lst (fo.map tupI))), none]) G.length ?_ ?_ ?_
    · walk_at "rl"
      rw [List.length_map]
      exact ⟨rfl, by omega, G, [], ds, rfl, rfl, hGm, by simp, rfl⟩
    · rintro j _ hj ⟨le, fo, ds, h1, h2, h3, h4, rfl⟩
      unfold l2_law_dice_k52
      walk_at "rl"
      refine wp_popB rfl ?_
      walk_at "rl"
      rw [List.length_map]
      refine of_take (by omega) fun z ds hz1 hz2 => ?_
      obtain ⟨z, rfl⟩ := Int.eq_ofNat_of_zero_le hz1
      have hz : z < le.length := by omega
      walk_at "rl"
      refine ⟨z, le.map tupI, tupI le[z], _, rfl, rfl, by simp [hz], by omega, SetR.s SetR.o, ?_⟩
      walk_at "rl"
      apply appq (xs := fo.map tupI) rfl (by rw [List.length_map]; omega)
      walk_at "set"
      walk_at "rl"
      refine ⟨le.eraseIdx z, fo ++ [le[z]], ds, by rw [List.length_eraseIdx_of_lt hz]; omega, by simp [h2], fun d hd => h3 d (List.mem_of_mem_eraseIdx hd), fun d hd => ?_, by rw [List.map_append, eraseB]; rfl⟩
      rcases List.mem_append.mp hd with hd | hd
      · exact h4 d hd
      · rw [List.mem_singleton.mp hd]; exact h3 _ (List.getElem_mem hz)
    · rintro _ ⟨le, fo, ds, h1, h2, h3, h4, rfl⟩
      walk_at "rl"
      exact q fo ds ⟨by omega, fun d hd => Nat.le_trans (h4 d hd) (by decide)⟩
abbrev twI (p : Int × Int) : PV := .tuple [.int p.1, .int p.2]
theorem of_built (q : ∀ (D : List (List Int)) ds', Dcs D → Q (.val (diceV D)) [intsO ds']) : Ret d_law_built [.ref (intsO ds)] Q := by
  have hln : (line : Nat) = 16777216 := rfl
  refine ret_mkR (by repeat constructor) ?_
  unfold b_law_built
  walk_at "rl"
  refine of_take (by decide) fun m ds hm1 hm2 => ?_
  obtain ⟨m, rfl⟩ := Int.eq_ofNat_of_zero_le hm1
  walk_at "rl"
  rw [show (3 : Int) + (m : Int) = ((m + 3 : Nat) : Int) by omega]
  have hm : 3 ≤ m + 3 ∧ m + 3 ≤ 8 := by omega
  generalize m + 3 = m at *
  refine wp_lstR1 ?_
  walk_at "rl"
  refine ⟨by omega, ?_⟩
  walk_at "rl"
  have e0 : rangeL 0 ((m : Int)).toNat = ((List.range m).map fun k : Nat => (k : Int)).map PyData.int := by
    rw [Int.toNat_natCast, List.map_map]
    unfold rangeL
    exact List.map_congr_left fun k _ => by simp
  rw [e0]
  refine wp_forN (fun j ρ => ∃ (le fo : List Int) (ds : List Int) (u : Option Sl), le.length + j = m ∧ fo.length = j ∧ isRef u = false ∧ ρ = [some (.ref (intsO ds)), some (.val (.int (m : Int))), some (.own (.lst (le.map PyData.int))), some (.own (.lst (fo.map PyData.int))), u, none, none, none, none, none, none, none, none]) m ?_ ?_ ?_
  · walk_at "rl"
    exact ⟨rfl, by omega, _, [], ds, none, by rw [List.length_map, List.length_range]; rfl, rfl, rfl, rfl⟩
  · rintro j _ hj ⟨le, fo, ds, u, h1, h2, hu, rfl⟩
    unfold l1_law_built
    walk_at "rl"
    refine wp_popB rfl ?_
    walk_at "rl"
    rw [List.length_map]
    refine of_take (by omega) fun z ds hz1 hz2 => ?_
    obtain ⟨z, rfl⟩ := Int.eq_ofNat_of_zero_le hz1
    have hz : z < le.length := by omega
    walk_at "rl"
    refine ⟨z, le.map PyData.int, .int le[z], _, rfl, rfl, by simp [hz], by omega, by walk_at "set", ?_⟩
    walk_at "rl"
    apply appq (xs := fo.map PyData.int) rfl (by rw [List.length_map]; omega)
    walk_at "set"
    walk_at "rl"
    exact ⟨le.eraseIdx z, fo ++ [le[z]], ds, _, by rw [List.length_eraseIdx_of_lt hz]; omega, by simp [h2], rfl, by rw [List.map_append, eraseB]; rfl⟩
  rintro _ ⟨le, T, ds, u, h1, hT, hu, rfl⟩
  walk_at "rl"
  have h36 : (3 : Int) ≤ (if (6 : Int) < (m : Int) then 6 else (m : Int)) ∧ (if (6 : Int) < (m : Int) then 6 else (m : Int)) ≤ 6 ∧ (if (6 : Int) < (m : Int) then 6 else (m : Int)) ≤ (m : Int) := by split <;> omega
  refine of_take (by omega) fun z ds hz1 hz2 => ?_
  obtain ⟨z, rfl⟩ := Int.eq_ofNat_of_zero_le hz1
  walk_at "rl"
  rw [show (3 : Int) + (z : Int) = ((z + 3 : Nat) : Int) by omega]
  have hs : 3 ≤ z + 3 ∧ z + 3 ≤ 6 ∧ z + 3 ≤ m := by omega
  generalize z + 3 = s at *
  have hTl : T.length = m := hT
  have ixT : ∀ {k : Nat}, k < m → fIx (.ob (.lst (T.map PyData.int))) (.pv (.int (k : Int))) = some (.val (.int (T.getD k 0))) := fun {k} hk => ev_ix (a := (k : Int)) (.inr (.inr rfl)) (atI_nat (by rw [List.getElem?_map, List.getElem?_eq_getElem (by omega), List.getD_eq_getElem?_getD, List.getElem?_eq_getElem (by omega)]; rfl))
  refine wp_lcN (ρ1 := [some (.ref (intsO ds)), some (.val (.int (m : Int))), some (.own (.lst (le.map PyData.int))), some (.own (.lst (T.map PyData.int))), u, some (.val (.int (s : Int))), none, none, none, none, none, none, none]) s (fun k => twI (T.getD k 0, T.getD ((k + 1) % s) 0)) (by simp) (by omega) ?_ ?_ ?_
  · walk_at "rl"
    exact ⟨rfl, rfl⟩
  · intro k hk
    dsimp only [set_s, set_z]
    unfold e2_law_built
    walk_at "rl"
    refine opq rfl rfl (ixT (k := k) (by omega)) ?_
    walk_at "rl"
    refine opq rfl rfl (ev_mod (by omega)) ?_
    have em : ((k : Int) + 1).fmod (s : Int) = (((k + 1) % s : Nat) : Int) := by
      rw [Int.fmod_eq_emod_of_nonneg _ (by omega), show (k : Int) + 1 = ((k + 1 : Nat) : Int) by omega]
      exact (Int.natCast_emod (k + 1) s).symm
    rw [em]
    have hlt := Nat.mod_lt (k + 1) (show s > 0 by omega)
    walk_at "rl"
    refine opq rfl rfl (ixT (k := (k + 1) % s) (by omega)) ?_
    walk_at "rl"
    first | rfl | exact ⟨rfl, rfl⟩
  obtain ⟨P, hP⟩ : ∃ P : List (Int × Int), P = (List.range s).map fun k => (T.getD k 0, T.getD ((k + 1) % s) 0) := ⟨_, rfl⟩
  have eP : ((List.range s).map fun k => twI (T.getD k 0, T.getD ((k + 1) % s) 0)) = P.map twI := by rw [hP, List.map_map]; rfl
  have hPl : P.length = s := by rw [hP, List.length_map, List.length_range]
  rw [eP]
  clear eP hP ixT hT h1 e0
  walk_at "rl"
  generalize hle : (le.map PyData.int) = LE at *
  generalize (T.map PyData.int) = TT at *
  refine wp_rngX ?_
  walk_at "rl"
  refine of_take (by omega) fun c ds hc1 hc2 => ?_
  obtain ⟨c, rfl⟩ := Int.eq_ofNat_of_zero_le hc1
  refine ⟨c, rfl, by omega, fun k ρ => ∃ (P : List (Int × Int)) (ds : List Int) (u : Option Sl), 3 ≤ P.length ∧ P.length ≤ s + k ∧ isRef u = false ∧ ρ = [some (.ref (intsO ds)), some (.val (.int (m : Int))), some (.own (.lst LE)), some (.own (.lst TT)), u, some (.val (.int (s : Int))), some (.own (.lst (P.map twI))), none, none, none, none, none, none], ⟨P, ds, u, by omega, by omega, hu, rfl⟩, ?_, ?_⟩
  · rintro k _ hk ⟨P, ds, u, h1, h2, hu, rfl⟩
    unfold l3_law_built
    walk_at "rl"
    refine of_take (by omega) fun a ds ha1 ha2 => ?_
    walk_at "rl"
    refine of_take (by omega) fun b ds hb1 hb2 => ?_
    walk_at "rl"
    refine opq rfl rfl (ev_mod (by omega)) ?_
    walk_at "rl"
    apply appq (xs := P.map twI) rfl (by rw [List.length_map]; omega)
    walk_at "set"
    walk_at "rl"
    exact ⟨P ++ [(a, (a + 1 + b).fmod (m : Int))], ds, none, by simp; omega, by simp; omega, rfl, by rw [List.map_append]; rfl⟩
  rintro _ ⟨P, ds, u, h1, h2, hu, rfl⟩
  clear hc1
  walk_at "rl"
  refine wp_mid (fun ρ => ∃ (P : List (Int × Int)) (ds : List Int), P.length ≤ 6 ∧ ρ = [some (.ref (intsO ds)), some (.val (.int (m : Int))), some (.own (.lst LE)), some (.own (.lst TT)), u, some (.val (.int (s : Int))), some (.own (.lst (P.map twI))), none, none, none, none, none, none]) ?_ ?_
  · walk_at "ril"
    refine of_take (by decide) fun y ds _ _ => ?_
    walk_at "ril"
    refine ⟨fun _ => ?_, fun _ => ?_⟩
    · walk_at "ril"
      refine wp_popB rfl ?_
      walk_at "rl"
      rw [List.length_map]
      refine of_take (by omega) fun z ds hz1 hz2 => ?_
      obtain ⟨z, rfl⟩ := Int.eq_ofNat_of_zero_le hz1
      have hz : z < P.length := by omega
      walk_at "rl"
      refine ⟨z, P.map twI, twI P[z], _, rfl, rfl, by simp [hz], by omega, by walk_at "set", ?_⟩
      walk_at "rl"
      exact ⟨P.eraseIdx z, ds, by rw [List.length_eraseIdx_of_lt hz]; omega, by rw [eraseB]⟩
    · walk_at "ril"
      exact ⟨P, ds, by omega, rfl⟩
  clear h1 h2 hPl P ds
  rintro _ ⟨P, ds, hP6, rfl⟩
  walk_at "rl"
  refine wp_forN (fun j ρ => ∃ (D : List (List Int)) (u : Option Sl), D.length = j ∧ (∀ d ∈ D, d.length ≤ 12) ∧ isRef u = false ∧ ρ = [some (.ref (intsO ds)), some (.val (.int (m : Int))), some (.own (.lst LE)), some (.own (.lst TT)), u, some (.val (.int (s : Int))), some (.own (.lst (P.map twI))), some (.own (.lst (D.map tupI))), none, none, none, none, none]) m ?_ ?_ ?_
  · walk_at "rl"
    exact ⟨rfl, by omega, [], u, rfl, by simp, hu, rfl⟩
  · rintro j _ hj ⟨D, u, h1, h2, hu, rfl⟩
    unfold l6_law_built
    walk_at "rl"
    refine wp_forN (fun k ρ => ∃ (F : List Int) (u : Option Sl), F.length = 2 * k ∧ isRef u = false ∧ ρ = [some (.ref (intsO ds)), some (.val (.int (m : Int))), some (.own (.lst LE)), some (.own (.lst TT)), u, some (.val (.int (s : Int))), some (.own (.lst (P.map twI))), some (.own (.lst (D.map tupI))), some (.val (natI j)), none, some (.own (.lst (F.map PyData.int))), none, none]) P.length ?_ ?_ ?_
    · walk_at "rl"
      rw [List.length_map]
      exact ⟨rfl, by omega, [], u, rfl, hu, rfl⟩
    · rintro k _ hk ⟨F, u, h3, hu, rfl⟩
      have ixP : fIx (.ob (.lst (P.map twI))) (.pv (.int (k : Int))) = some (.val (twI P[k])) := ev_ix (a := (k : Int)) (.inr (.inr rfl)) (atI_nat (by simp [hk]))
      generalize P[k] = pr at *
      obtain ⟨p1, p2⟩ := pr
      unfold l5_law_built
      walk_at "rl"
      refine wp_mid (fun ρ => ∃ W : List Int, W.length = 2 ∧ (∀ z ∈ W, z.natAbs < 2 ^ 4) ∧ ρ = [some (.ref (intsO ds)), some (.val (.int (m : Int))), some (.own (.lst LE)), some (.own (.lst TT)), some (.val (.int (k : Int))), some (.val (.int (s : Int))), some (.own (.lst (P.map twI))), some (.own (.lst (D.map tupI))), some (.val (natI j)), none, some (.own (.lst (F.map PyData.int))), some (.own (.lst (W.map PyData.int))), none]) ?_ ?_
      · walk_at "ril"
        refine opq rfl rfl ixP ?_
        walk_at "ril"
        refine ⟨fun _ => ?_, fun _ => ?_⟩
        · walk_at "ril"
          exact ⟨[2, 5], rfl, by decide, rfl⟩
        · walk_at "ril"
          exact ⟨[3, 3], rfl, by decide, rfl⟩
      rintro _ ⟨W, hW, hWs, rfl⟩
      walk_at "rl"
      refine wp_mid (fun ρ => ∃ W : List Int, W.length = 2 ∧ ρ = [some (.ref (intsO ds)), some (.val (.int (m : Int))), some (.own (.lst LE)), some (.own (.lst TT)), some (.val (.int (k : Int))), some (.val (.int (s : Int))), some (.own (.lst (P.map twI))), some (.own (.lst (D.map tupI))), some (.val (natI j)), none, some (.own (.lst (F.map PyData.int))), some (.own (.lst (W.map PyData.int))), none]) ?_ ?_
      · walk_at "ril"
        refine opq rfl rfl ixP ?_
        walk_at "ril"
        refine ⟨fun _ => ?_, fun _ => ?_⟩
        · walk_at "ril"
          exact ⟨[1, 4], rfl, rfl⟩
        · walk_at "ril"
          exact ⟨W, hW, rfl⟩
      clear hWs hW W
      rintro _ ⟨W, hW, rfl⟩
      walk_at "rl"
      refine wp_lcLT (ρ1 := [some (.ref (intsO ds)), some (.val (.int (m : Int))), some (.own (.lst LE)), some (.own (.lst TT)), some (.val (.int (k : Int))), some (.val (.int (s : Int))), some (.own (.lst (P.map twI))), some (.own (.lst (D.map tupI))), some (.val (natI j)), none, some (.own (.lst (F.map PyData.int))), some (.val (.list (W.map PyData.int))), none]) PyData.int W (fun _ => true) (fun z => .int (5 * (k : Int) + z)) (by simp) (by omega) ?_ ?_ ?_ ?_
      · walk_at "rl"
        first | rfl | exact ⟨.inl rfl, rfl⟩
      · intro x hx
        exact ⟨_, _, rfl, rfl, rfl⟩
      · intro z hz
        dsimp only [set_s, set_z]
        unfold e4_law_built
        walk_at "rl"
        refine opq rfl rfl (ev_mul (mulOk_of 10 10 (by decide) (by omega) (by omega))) ?_
        walk_at "rl"
        first | rfl | exact ⟨rfl, rfl⟩
      rw [List.filter_eq_self.mpr (show ∀ a ∈ W, (fun _ => true) a = true from fun _ _ => rfl)]
      have es : (W.map fun z => PyData.int (5 * (k : Int) + z)) = (W.map fun z => 5 * (k : Int) + z).map PyData.int := by rw [List.map_map]; rfl
      rw [es]
      refine opq rfl rfl (ev_addL (by simp; omega)) ?_
      walk_at "rl"
      exact ⟨F ++ W.map fun z => 5 * (k : Int) + z, none, by rw [List.length_append, List.length_map]; omega, rfl, by rw [List.map_append]⟩
    · rintro _ ⟨F, u, h3, hu, rfl⟩
      walk_at "rl"
      apply appq (xs := D.map tupI) rfl (by rw [List.length_map]; omega)
      walk_at "set"
      walk_at "rl"
      refine ⟨D ++ [F], none, by simp [h1], fun d hd => ?_, rfl, by rw [List.map_append]; rfl⟩
      rcases List.mem_append.mp hd with hd | hd
      · exact h2 d hd
      · rw [List.mem_singleton.mp hd]; omega
  · rintro _ ⟨D, u, h1, h2, hu, rfl⟩
    walk_at "rl"
    exact q D ds ⟨by omega, fun d hd => Nat.le_trans (h2 d hd) (by decide)⟩
end
end Py
namespace Py
open PySem D
local macro_rules
  | `(tactic| walk_at "w") => `(tactic| with_reducible first
    | refine seq_nx ?_ | refine seq_rt ?_ | refine seq_bk ?_ | refine seq_ct ?_ | refine wp_seq ?_ | refine wp_asg ?_ | refine wp_next ?_ | refine wp_ret ?_ | refine wp_retN ?_ | refine wp_brk ?_ | refine wp_cont ?_ | refine wp_expr ?_ | refine wp_op ?_ | refine wp_un ?_ | refine wp_c ?_
    | refine unB ?_ | refine wp_truB ?_ | refine wp_and ?_ | refine wp_or ?_ | refine wp_not ?_ | refine wp_ifE ?_ | refine wp_tup ?_ | refine wp_lst ?_ | refine wp_lcons ?_ | refine wp_lnil ?_ | refine frzV ?_ | refine frzN ?_ | refine wp_frz ?_ | refine wp_sl ?_ | refine wp_onone ?_ | refine wp_osome ?_
    | refine wp_anil ?_ | refine wp_av ?_ | refine wp_andV ?_ | refine wp_orV ?_ | refine wp_notV ?_ | refine wp_fgtR ?_ | refine turn_nx ?_ | refine turn_rt ?_ | refine turn_bk ?_ | refine turn_ct ?_ | refine fgt_rt ?_ | refine wp_par ?_ | refine wp_chain ?_ | refine wp_seqI ?_)
local macro_rules
  | `(tactic| walk_at "put") => `(tactic| focus ((repeat apply PutR.s); first | exact PutR.z rfl | exact PutR.z (by assumption)))
local macro_rules
  | `(tactic| walk_at "set") => `(tactic| focus ((repeat apply SetR.s); first | exact SetR.o | exact SetR.r))
local macro_rules
  | `(tactic| walk_at "fgt") => `(tactic| focus (repeat first | exact FgtsR.nil | exact FgtR.k | exact FgtR.z rfl | exact FgtR.z (by assumption) | apply FgtR.s | apply FgtsR.cons))
local macro_rules
  | `(tactic| walk_at "x") => `(tactic| first
    | ((with_reducible apply wp_varV); (focus exact rfl)) | ((with_reducible apply wp_varO); (focus exact rfl)) | ((with_reducible apply wp_varR); (focus exact rfl))
    | ((with_reducible apply opq); (focus exact rfl); (focus exact rfl); (focus (first | exact ev_eqI | exact ev_neI | exact ev_ltI | exact ev_leI | exact ev_gtI | exact ev_geI | exact ev_in2 | exact ev_in2n | exact ev_in4n | exact ev_isT | exact ev_isF | exact ev_isnT | exact ev_isnF | exact ev_eqQ0 | exact ev_eqQ1 | exact ev_eqQ | exact ev_neQ | exact ev_strT | exact ev_strF n1 | exact ev_strF n2 | exact ev_strF n3 | exact ev_strF n4 | exact ev_strF n5 | exact ev_strF n6 | exact rfl)))
    | ((with_reducible apply unq); (focus exact rfl); (focus exact rfl))
    | ((with_reducible first | apply putqV | apply putqN); walk_at "put")
    | ((with_reducible apply putqB); (focus exact rfl); (focus exact rfl); walk_at "put"; walk_at "put")
    | ((with_reducible apply putq2); walk_at "put"; walk_at "put")
    | ((with_reducible apply parq); walk_at "put"; walk_at "put")
    | ((with_reducible apply wp_callR); (focus (repeat first | exact RefsR.nil | apply RefsR.v | apply RefsR.r)); (focus decide))
    | ((with_reducible apply wp_ar); (focus exact rfl))
    | ((with_reducible apply fin_rt); (focus exact rfl); (focus exact rfl))
    | ((with_reducible apply fin_nx); (focus exact rfl))
    | ((with_reducible apply wp_appendR); (focus exact rfl))
    | (with_reducible refine ⟨_, rfl, ?_⟩) | (with_reducible refine ⟨_, .inl rfl, ?_⟩) | (with_reducible refine ⟨_, .inr (.inl rfl), ?_⟩) | (with_reducible refine ⟨_, .inr (.inr rfl), ?_⟩)
    | (with_reducible apply callq0) | ((with_reducible apply frzB); (focus exact rfl); (focus exact rfl); walk_at "put")
    | ((with_reducible apply callq1); walk_at "set")
    | ((with_reducible apply callq2); walk_at "set"; walk_at "set")
    | ((with_reducible first | apply fgt_nx | apply fgt_bk | apply fgt_ct); walk_at "fgt")
    | ((with_reducible apply brT); (focus exact rfl)) | ((with_reducible apply brF); (focus exact rfl)))
local macro_rules
  | `(tactic| walk_at "r") => `(tactic| repeat first | walk_at "w" | walk_at "x")
local macro_rules
  | `(tactic| walk_at "ri") => `(tactic| repeat first | walk_at "w" | walk_at "x" | (with_reducible refine wp_if ?_))
local macro_rules
  | `(tactic| walk_at "app") => `(tactic| ((with_reducible apply appq); (focus exact rfl); (focus ((try simp only [List.length_map, List.length_nil, List.length_cons, List.length_append]); unfold line; omega)); walk_at "set"))
local macro_rules
  | `(tactic| walk_at "mul") => `(tactic| ((refine opq rfl rfl (ev_mul ?_) ?_); (focus (apply mulT <;> omega))))
local macro_rules
  | `(tactic| walk_at "rm") => `(tactic| repeat first | walk_at "w" | walk_at "x" | walk_at "mul")
local macro_rules
  | `(tactic| walk_at "len") => `(tactic| (refine And.intro ?_ ?_; (focus (simp [line]; done))))
local macro_rules
  | `(tactic| walk_at "rl") => `(tactic| repeat first | walk_at "w" | walk_at "x" | walk_at "len")
local macro_rules
  | `(tactic| walk_at "ril") => `(tactic| repeat first | walk_at "w" | walk_at "x" | walk_at "len" | (with_reducible refine wp_if ?_))
/-! Q_k52: rings of dice. -/
section
variable {Q : R → List Ob → Prop} {ns ds : List Int} {dice : List (List Int)}
theorem plain_opt52 {r : Option (List Nat)} (h : ∀ s, r = some s → s.length ≤ 1000) : Plain 40 (optB r) := by
  cases r with
  | none => exact .none
  | some s =>
    have hln : (line : Nat) = 16777216 := rfl
    refine .tuple (n := 39) (by have := h s rfl; rw [List.length_map]; omega) fun y hy => ?_
    obtain ⟨z, _, rfl⟩ := List.mem_map.mp hy
    exact .int
theorem best_len {B : Nat → Nat → Bool} {n : Nat} {r : Option (List Nat)} (hB : Best B n r) : ∀ s, r = some s → 0 < s.length ∧ s.length ≤ n ∧ ∀ x ∈ s, x < n := fun s e => by
  cases hB with
  | none _ => cases e
  | some hs hM h =>
    cases e
    have hm := isM_lt hs hM
    obtain ⟨r1, _⟩ := ring_row hs hM
    obtain ⟨_, _, g3, _⟩ := rows_mem.mp r1
    exact ⟨by simp, by rw [List.length_cons, gr_len]; omega, g3⟩
theorem plain_best52 {B : Nat → Nat → Bool} {n : Nat} (hn : n ≤ 8) {r : Option (List Nat)} (hB : Best B n r) : Plain 40 (optB r) := plain_opt52 fun s e => by
  have := (best_len hB s e).2.1
  omega
theorem of_right52 (hd : Dcs dice) (q : ∀ r, Best (bD dice) dice.length r → Q (.new (.lst [optB r])) []) : Ret d_law_right_k52_2 [.val (diceV dice)] Q := by
  have hln : (line : Nat) = 16777216 := rfl
  have hl := hd.len
  refine ret_mkR (by repeat constructor) ?_
  unfold b_law_right_k52_2
  walk_at "rl"
  refine of_table hd ?_
  walk_at "rl"
  refine of_least (B := bD dice) (n := dice.length) hl fun r hB => ?_
  walk_at "rl"
  refine wp_mid (fun ρ => ρ = [some (.val (diceV dice)), some (.val (tabB (bD dice) dice.length)), some (.val (optB r))]) ?_ ?_
  · walk_at "ril"
    rw [List.length_map]
    refine ⟨fun h => ?_, fun h => ?_⟩
    · have h0 := of_decide_eq_true h
      walk_at "ril"
      refine of_first (B := bD dice) (n := dice.length) (by omega) fun r' hB' => ?_
      rw [hB'.uniq hB]
      walk_at "ril"
      try rfl
    · walk_at "ril"
      try rfl
  rintro _ rfl
  walk_at "ril"
  refine of_ring hd fun r' hB' => ?_
  rw [hB'.uniq hB]
  walk_at "ril"
  refine of_same (plain_best52 hl hB) ?_
  walk_at "ril"
  exact q r hB
theorem cutE1 {xs : List PV} {a : Nat} : cut xs none (some (a : Int)) = xs.take a := by
  unfold cut
  simp only [sIx, if_neg (show ¬ ((a : Int) < 0) by omega), Int.toNat_natCast, List.drop_zero, Nat.sub_zero]
  rw [Nat.min_def]
  split
  · rfl
  · rw [List.take_length, List.take_of_length_le (by omega)]
theorem cutE2 {xs : List PV} {a : Nat} : cut xs (some (a : Int)) none = xs.drop a := by
  unfold cut
  simp only [sIx, if_neg (show ¬ ((a : Int) < 0) by omega), Int.toNat_natCast]
  rw [Nat.min_def]
  split
  · rw [List.take_of_length_le (by rw [List.length_drop]; exact Nat.le_refl _)]
  · rw [List.drop_length, List.drop_of_length_le (by omega)]
    simp
def thD : List (List Int) := [[3, 5, 7], [2, 4, 9], [1, 6, 8]]
theorem th_best : Best (bD thD) 3 (some [0, 1, 2]) := by
  refine first_best (m := 2) ?_ ?_
  · decide +kernel
  · decide +kernel
def noD : List (List Int) := [[1, 2], [2, 3], [3]]
theorem no_best : Best (bD noD) 3 none := by
  refine first_none ?_
  decide +kernel
theorem Law_k52_holds (ns : List Int) (hl : ns.length ≤ 63) (hb : ∀ z ∈ ns, Builtin.Int.intBits z ≤ 1048576) : ∃ os, d_law_k52_3 [.val (.list (ns.map PyData.int))] = some (.val (.bool true), os) := by
  suffices h : Ret d_law_k52_3 [.val (.list (ns.map PyData.int))] fun r _ => r = .val (.bool true) by
    obtain ⟨r, os, e, q⟩ := h
    exact ⟨os, by rw [e, q]⟩
  have hln : (line : Nat) = 16777216 := rfl
  refine ret_mkR (by repeat constructor) ?_
  unfold b_law_k52_3
  walk_at "rl"
  refine of_draws (m := 200) hb hl (by decide) fun ds => ?_
  walk_at "rl"
  refine of_dice52 fun dice ds hd => ?_
  have hl8 := hd.len
  walk_at "rl"
  refine of_right52 hd fun r hB => ?_
  walk_at "ril"
  refine of_ring hd fun r' hB' => ?_
  rw [hB'.uniq hB]
  walk_at "ril"
  refine of_same (plain_best52 hl8 hB) ?_
  walk_at "rl"
  refine wp_mid (fun ρ => ∃ (ds : List Int) (u : Option Sl), isRef u = false ∧ ρ = [some (.val (.list (ns.map PyData.int))), some (.own (intsO ds)), some (.val (diceV dice)), some (.own (.lst [optB r])), none, u]) ?_ ?_
  · cases r with
    | none =>
      walk_at "ril"
      exact ⟨ds, none, rfl, rfl⟩
    | some s =>
      obtain ⟨s1, s2, s3⟩ := best_len hB s rfl
      walk_at "ril"
      rw [List.length_map]
      refine of_take (by omega) fun z ds hz1 hz2 => ?_
      obtain ⟨z, rfl⟩ := Int.eq_ofNat_of_zero_le hz1
      have hz : z < s.length := by omega
      have hat := s3 _ (List.getElem_mem hz)
      walk_at "ril"
      refine opq rfl rfl (ev_ix (a := (z : Int)) (.inl rfl) (atI_nat (v := natI s[z]) (by simp [hz]))) ?_
      generalize s[z] = a at *
      walk_at "ril"
      rw [show (a : Int) + 1 = ((a + 1 : Nat) : Int) by omega, cutE1, cutE2, ← List.map_take, ← List.map_drop]
      have ht : (dice.take a).length ≤ a := by rw [List.length_take]; omega
      have hdl : (dice.drop (a + 1)).length + (a + 1) = dice.length := by rw [List.length_drop]; omega
      refine opq rfl rfl (ev_addT (by rw [List.length_map, List.length_map]; omega)) ?_
      rw [← List.map_append]
      have hD : Dcs (dice.take a ++ dice.drop (a + 1)) := ⟨by rw [List.length_append]; omega, fun d h => by
        rcases List.mem_append.mp h with h | h
        · exact hd.faces d (List.mem_of_mem_take h)
        · exact hd.faces d (List.mem_of_mem_drop h)⟩
      generalize dice.take a ++ dice.drop (a + 1) = D at *
      walk_at "ril"
      refine of_right52 (dice := D) hD fun r2 hB2 => ?_
      walk_at "ril"
      exact ⟨ds, _, rfl, rfl⟩
  rintro _ ⟨ds, u, hu, rfl⟩
  walk_at "ril"
  refine of_built fun D ds hD => ?_
  walk_at "ril"
  refine of_right52 hD fun r2 hB2 => ?_
  walk_at "ril"
  refine of_ring (dice := thD) ⟨by decide, by decide⟩ fun r3 hB3 => ?_
  rw [hB3.uniq th_best]
  walk_at "ril"
  refine of_same (v := .tuple [.int 0, .int 1, .int 2]) (plain_opt52 (r := some [0, 1, 2]) fun s e => by cases e; decide) ?_
  walk_at "ril"
  refine of_ring (dice := noD) ⟨by decide, by decide⟩ fun r4 hB4 => ?_
  rw [hB4.uniq no_best]
  walk_at "ril"
  rfl
end
end Py
theorem Law_k52.holds : ∀ ns : List Int, ns.length ≤ 63 → (∀ z ∈ ns, PySem.Builtin.Int.intBits z ≤ 1048576) → ∃ os, D.d_law_k52_3 [.val (.list (ns.map PySem.PyData.int))] = some (.val (.bool true), os) := Py.Law_k52_holds
/-! the walk (printed by gen.py) -/
namespace Law_k52
open PySem PySem.Spec PyProof.Rows L2 Py D
def topS (i : Nat) : Stmt := PySem.Challenge.pw_nosurebet_k52_rings_of_dice.main.body.getD i (.Pass ⟨0, 0, 0, 0⟩)
section
variable {P : Program} {w : World} {K : PySem.W.Frag} {mg : Str → Option Value} {base : Heap}
abbrev s_beats : Stmt := topS 1
theorem sc_beats : FnScope ["one", "other", "more", "face", "against"] ["one", "other"] (defScope s_beats) := ⟨rfl, rfl, rfl, by decide +kernel, rfl, by decide +kernel, by decide +kernel⟩
theorem bi_beats (D : Df K mg "beats" s_beats) : Binds K D.fd ["one", "other"] [] := D.F.binds (ps := ["one", "other"]) fun _ _ _ _ _ _ us hl => match us, hl with | [_, _], _ => rfl
theorem ok_beats (hs : base.NoSeer) (ht : P.given.tree = none) (D_beats : Df K mg "beats" s_beats) (n_len : mg "len" = none) : FnOk P w K mg base CX0 (41) D_beats.f D_beats.fd ["one", "other"] (spOf K 2 d_beats) :=
  ok_of D_beats.F sc_beats (by decide) hs ht fun cdv A outer s H E c =>
    (bss_cons (bs_set 2 c.nd (be_b1 c_len rfl n_len bt_len (be_lc2N 3 4 [("face", 3), ("against", 4)] c.calm c.nd (bi_seq (be_frz (be_var 0))) (blk_at (N := ["one", "other", "more", "face", "against"]) (sc := defScope s_beats) rfl rfl (by decide +kernel)) (by decide) (fun _ _ _ _ _ => pg_name (i := 3) c.nd rfl (.inl rfl)) (fun _ _ _ _ _ => bts_nil) (fun _ _ _ _ _ => (bi2_seq (be_frz (be_var 1)))) (fun _ _ _ _ _ => pg_name (i := 4) c.nd rfl (.inl rfl)) (fun _ _ _ _ _ => (bts_one (bt_cmp ob_gt (be_var 3) (be_var 4)))) (fun _ _ _ _ _ => be_int))))
    (bss_one (bs_ret (be_cmp ob_gt (be_var 2) (be_b1 c_len rfl n_len bt_len (be_lc2N 3 4 [("face", 3), ("against", 4)] c.calm c.nd (bi_seq (be_frz (be_var 0))) (blk_at (N := ["one", "other", "more", "face", "against"]) (sc := defScope s_beats) rfl rfl (by decide +kernel)) (by decide) (fun _ _ _ _ _ => pg_name (i := 3) c.nd rfl (.inl rfl)) (fun _ _ _ _ _ => bts_nil) (fun _ _ _ _ _ => (bi2_seq (be_frz (be_var 1)))) (fun _ _ _ _ _ => pg_name (i := 4) c.nd rfl (.inl rfl)) (fun _ _ _ _ _ => (bts_one (bt_cmp ob_lt (be_var 3) (be_var 4)))) (fun _ _ _ _ _ => be_int)))))))
abbrev s_rounds_back : Stmt := topS 2
theorem sc_rounds_back : FnScope ["table", "start", "found", "edge", "later", "one", "at"] ["table", "start"] (defScope s_rounds_back) := ⟨rfl, rfl, rfl, by decide +kernel, rfl, by decide +kernel, by decide +kernel⟩
theorem bi_rounds_back (D : Df K mg "rounds_back" s_rounds_back) : Binds K D.fd ["table", "start"] [] := D.F.binds (ps := ["table", "start"]) fun _ _ _ _ _ _ us hl => match us, hl with | [_, _], _ => rfl
theorem ok_rounds_back (hs : base.NoSeer) (ht : P.given.tree = none) (D_rounds_back : Df K mg "rounds_back" s_rounds_back) (n_any : mg "any" = none) (n_len : mg "len" = none) (n_range : mg "range" = none) : FnOk P w K mg base CX0 (41) D_rounds_back.f D_rounds_back.fd ["table", "start"] (spOf K 2 d_rounds_back) :=
  ok_of D_rounds_back.F sc_rounds_back (by decide) hs ht fun cdv A outer s H E c =>
    (bss_cons (bs_set 2 c.nd (be_op ob_mul (be_lst (bl_cons be_non bl_nil)) (be_b1 c_len rfl n_len bt_len (be_var 0))))
    (bss_cons (bs_setIx 2 (pv 2) (be_var 1) be_int)
    (bss_cons (bs_set 3 c.nd (be_lst (bl_cons (be_var 1) bl_nil)))
    (bss_cons (bs_fgt [3, 5] (bs_while c.pass (bt_cmp ob_gt (be_b1 c_len rfl n_len bt_len (be_var 3)) be_int) (bss_fgt [4] (bss_cons (bs_setLcN 4 5 [("one", 5)] c.calm c.nd rfl rfl (bi_rng1 rfl n_range (be_b1 c_len rfl n_len bt_len (be_var 0))) (blk_at (N := ["table", "start", "found", "edge", "later", "one", "at"]) (sc := defScope s_rounds_back) rfl rfl (by decide +kernel)) (by decide) rfl (sw_true rfl rfl rfl (by decide +kernel)) (fun _ _ _ _ _ => pg_name (i := 5) c.nd rfl (.inl rfl)) (fun _ _ _ _ _ => (bts_one (bt_w (bw_and (bt_cmp ob_is (be_ix (be_var 2) (be_var 5)) be_non) (bw_and1 (bt_tru (be_b1 (c_any c.calm) rfl n_any bt_any (be_lcN 6 [("at", 6)] c.calm c.nd (bi_seq (be_ix (be_var 0) (be_var 5))) (blk_in (N := ["table", "start", "found", "edge", "later", "one", "at"]) (sc0 := defScope s_rounds_back) rfl rfl (by decide +kernel)) (by decide) rfl (fun _ _ _ _ _ => pg_name (i := 6) c.nd rfl (.inl rfl)) (fun _ _ _ _ _ => bts_nil) (fun _ _ _ _ _ => (be_cmp (ob_in c.unitsD) (be_var 6) (be_var 3))))))))))) (fun _ _ _ _ _ => (be_var 5)))
    (bss_cons (bs_for c.pass c.calm (bi_seq (be_frz (be_var 4))) (bg_name 5 c.nd) (bss_fgt [] (bss_one (bs_setIx 2 (pv 2) (be_var 5) (be_op ob_add (be_ix (be_var 2) (be_ix (be_var 3) be_int)) be_int)))))
    (bss_one (bs_set 3 c.nd (be_var 4))))))))
    (bss_one (bs_ret (be_var 2)))))))
abbrev s_ring_from : Stmt := topS 3
theorem sc_ring_from : FnScope ["table", "start", "back", "ahead", "row", "left", "other"] ["table", "start"] (defScope s_ring_from) := ⟨rfl, rfl, rfl, by decide +kernel, rfl, by decide +kernel, by decide +kernel⟩
theorem bi_ring_from (D : Df K mg "ring_from" s_ring_from) : Binds K D.fd ["table", "start"] [] := D.F.binds (ps := ["table", "start"]) fun _ _ _ _ _ _ us hl => match us, hl with | [_, _], _ => rfl
theorem ok_ring_from (hs : base.NoSeer) (ht : P.given.tree = none) (D_ring_from : Df K mg "ring_from" s_ring_from) (D_rounds_back : Df K mg "rounds_back" s_rounds_back) (G_rounds_back : FnOk P w K mg base CX0 (41) D_rounds_back.f D_rounds_back.fd ["table", "start"] (spOf K 2 d_rounds_back)) (n_len : mg "len" = none) (n_min : mg "min" = none) (n_range : mg "range" = none) (n_tuple : mg "tuple" = none) : FnOk P w K mg base CX0 (42) D_ring_from.f D_ring_from.fd ["table", "start"] (spOf K 2 d_ring_from) :=
  ok_of D_ring_from.F sc_ring_from (by decide) hs ht fun cdv A outer s H E c =>
    (bss_cons (bs_set 2 c.nd (be_call G_rounds_back (c.room.mono (by omega)) rfl D_rounds_back.g D_rounds_back.F.kp (bi_rounds_back D_rounds_back) (ba_v (be_var 0) (ba_v (be_var 1) ba_nil))))
    (bss_cons (bs_setLcN 3 6 [("other", 6)] c.calm c.nd rfl rfl (bi_seq (be_ix (be_var 0) (be_var 1))) (blk_at (N := ["table", "start", "back", "ahead", "row", "left", "other"]) (sc := defScope s_ring_from) rfl rfl (by decide +kernel)) (by decide) rfl (sw_true rfl rfl rfl (by decide +kernel)) (fun _ _ _ _ _ => pg_name (i := 6) c.nd rfl (.inl rfl)) (fun _ _ _ _ _ => (bts_one (bt_cmp ob_isNot (be_ix (be_var 2) (be_var 6)) be_non))) (fun _ _ _ _ _ => (be_var 6)))
    (bss_cons (bs_if (bt_cmp (ob_eq c.units) (be_b1 c_len rfl n_len bt_len (be_var 3)) be_int) (bss_one (bs_ret be_non)) bss_nil)
    (bss_cons (bs_set 4 c.nd (be_lst (bl_cons (be_var 1) bl_nil)))
    (bss_cons (bs_for c.pass c.calm (bi_rngD rfl n_range (be_b1 (c_min c.calm) rfl n_min bt_min (be_lcN 6 [("other", 6)] c.calm c.nd (bi_seq (be_frz (be_var 3))) (blk_at (N := ["table", "start", "back", "ahead", "row", "left", "other"]) (sc := defScope s_ring_from) rfl rfl (by decide +kernel)) (by decide) rfl (fun _ _ _ _ _ => pg_name (i := 6) c.nd rfl (.inl rfl)) (fun _ _ _ _ _ => bts_nil) (fun _ _ _ _ _ => (be_ix (be_var 2) (be_var 6))))) be_int) (bg_name 5 c.nd) (bss_fgt [5] (bss_one (bs_expr (be_append 4 (pv 4) (be_ix (be_lcN 6 [("other", 6)] c.calm c.nd (bi_seq (be_ix (be_var 0) (be_ix (be_var 4) (be_neg be_int)))) (blk_at (N := ["table", "start", "back", "ahead", "row", "left", "other"]) (sc := defScope s_ring_from) rfl rfl (by decide +kernel)) (by decide) rfl (fun _ _ _ _ _ => pg_name (i := 6) c.nd rfl (.inl rfl)) (fun _ _ _ _ _ => (bts_one (bt_cmp (ob_eq c.units) (be_ix (be_var 2) (be_var 6)) (be_var 5)))) (fun _ _ _ _ _ => (be_var 6))) be_int))))))
    (bss_one (bs_ret (be_t1 c_tuple rfl n_tuple bt_tuple (be_var 4)))))))))
abbrev s_ring_k52 : Stmt := topS 4
theorem sc_ring_k52 : FnScope ["dice", "table", "found", "told", "one", "start", "other"] ["dice"] (defScope s_ring_k52) := ⟨rfl, rfl, rfl, by decide +kernel, rfl, by decide +kernel, by decide +kernel⟩
theorem bi_ring_k52 (D : Df K mg "ring" s_ring_k52) : Binds K D.fd ["dice"] [] := D.F.binds (ps := ["dice"]) fun _ _ _ _ _ _ us hl => match us, hl with | [_], _ => rfl
theorem ok_ring_k52 (hs : base.NoSeer) (ht : P.given.tree = none) (D_ring_k52 : Df K mg "ring" s_ring_k52) (D_ring_from : Df K mg "ring_from" s_ring_from) (G_ring_from : FnOk P w K mg base CX0 (42) D_ring_from.f D_ring_from.fd ["table", "start"] (spOf K 2 d_ring_from)) (D_beats : Df K mg "beats" s_beats) (G_beats : FnOk P w K mg base CX0 (41) D_beats.f D_beats.fd ["one", "other"] (spOf K 2 d_beats)) (n_len : mg "len" = none) (n_range : mg "range" = none) (n_sorted : mg "sorted" = none) : FnOk P w K mg base CX0 (43) D_ring_k52.f D_ring_k52.fd ["dice"] (spOf K 1 d_ring_k52) :=
  ok_of D_ring_k52.F sc_ring_k52 (by decide) hs ht fun cdv A outer s H E c =>
    (bss_cons (bs_set 1 c.nd (be_lcN 4 [("one", 4)] c.calm c.nd (bi_rng1 rfl n_range (be_b1 c_len rfl n_len bt_len (be_var 0))) (blk_at (N := ["dice", "table", "found", "told", "one", "start", "other"]) (sc := defScope s_ring_k52) rfl rfl (by decide +kernel)) (by decide) rfl (fun _ _ _ _ _ => pg_name (i := 4) c.nd rfl (.inr rfl)) (fun _ _ _ _ _ => bts_nil) (fun _ _ _ _ _ => (be_lcN 6 [("other", 6)] c.calm c.nd (bi_rng1 rfl n_range (be_b1 c_len rfl n_len bt_len (be_var 0))) (blk_in (N := ["dice", "table", "found", "told", "one", "start", "other"]) (sc0 := defScope s_ring_k52) rfl rfl (by decide +kernel)) (by decide) rfl (fun _ _ _ _ _ => pg_name (i := 6) c.nd rfl (.inl rfl)) (fun _ _ _ _ _ => (bts_one (bt_tru (be_call G_beats (c.room.mono (by omega)) rfl D_beats.g D_beats.F.kp (bi_beats D_beats) (ba_v (be_ix (be_var 0) (be_var 4)) (ba_v (be_ix (be_var 0) (be_var 6)) ba_nil)))))) (fun _ _ _ _ _ => (be_var 6))))))
    (bss_cons (bs_setLcN 2 5 [("start", 5)] c.calm c.nd rfl rfl (bi_rng1 rfl n_range (be_b1 c_len rfl n_len bt_len (be_var 0))) (blk_at (N := ["dice", "table", "found", "told", "one", "start", "other"]) (sc := defScope s_ring_k52) rfl rfl (by decide +kernel)) (by decide) rfl (sw_true rfl rfl rfl (by decide +kernel)) (fun _ _ _ _ _ => pg_name (i := 5) c.nd rfl (.inl rfl)) (fun _ _ _ _ _ => bts_nil) (fun _ _ _ _ _ => (be_call G_ring_from (c.room.mono (by omega)) rfl D_ring_from.g D_ring_from.F.kp (bi_ring_from D_ring_from) (ba_v (be_var 1) (ba_v (be_var 5) ba_nil)))))
    (bss_cons (bs_set 3 c.nd (be_b1 (c_sortedP c.units) rfl n_sorted bt_sorted (be_lcN 4 [("one", 4)] c.calm c.nd (bi_seq (be_frz (be_var 2))) (blk_at (N := ["dice", "table", "found", "told", "one", "start", "other"]) (sc := defScope s_ring_k52) rfl rfl (by decide +kernel)) (by decide) rfl (fun _ _ _ _ _ => pg_name (i := 4) c.nd rfl (.inl rfl)) (fun _ _ _ _ _ => (bts_one (bt_cmp ob_isNot (be_var 4) be_non))) (fun _ _ _ _ _ => (be_tup (bl_cons (be_b1 c_len rfl n_len bt_len (be_var 4)) (bl_cons (be_var 4) bl_nil)))))))
    (bss_one (bs_ret (be_if (bt_cmp ob_gt (be_b1 c_len rfl n_len bt_len (be_var 3)) be_int) (be_ix (be_ix (be_var 3) be_int) be_int) be_non))))))
abbrev s_law_draws : Stmt := topS 6
theorem sc_law_draws : FnScope ["script", "many", "cells", "rest", "draws", "k", "at", "once", "cell"] ["script", "many"] (defScope s_law_draws) := ⟨rfl, rfl, rfl, by decide +kernel, rfl, by decide +kernel, by decide +kernel⟩
theorem bi_law_draws (D : Df K mg "_law_draws" s_law_draws) : Binds K D.fd ["script", "many"] [] := D.F.binds (ps := ["script", "many"]) fun _ _ _ _ _ _ us hl => match us, hl with | [_, _], _ => rfl
theorem ok_law_draws (hs : base.NoSeer) (ht : P.given.tree = none) (D_law_draws : Df K mg "_law_draws" s_law_draws) (n_int : mg "int" = none) (n_len : mg "len" = none) (n_list : mg "list" = none) (n_range : mg "range" = none) : FnOk P w K mg base CX0 (41) D_law_draws.f D_law_draws.fd ["script", "many"] (spOf K 2 d_law_draws) :=
  ok_of D_law_draws.F sc_law_draws (by decide) hs ht fun cdv A outer s H E c =>
    (bss_cons (bs_setLcN 2 8 [("cell", 8)] c.calm c.nd rfl rfl (bi_seq (be_frz (be_var 0))) (blk_at (N := ["script", "many", "cells", "rest", "draws", "k", "at", "once", "cell"]) (sc := defScope s_law_draws) rfl rfl (by decide +kernel)) (by decide) rfl (sw_true rfl rfl rfl (by decide +kernel)) (fun _ _ _ _ _ => pg_name (i := 8) c.nd rfl (.inl rfl)) (fun _ _ _ _ _ => bts_nil) (fun _ _ _ _ _ => (be_t1 c_int rfl n_int bt_int (be_var 8))))
    (bss_cons (bs_if (bt_cmp (ob_eq c.units) (be_b1 c_len rfl n_len bt_len (be_var 2)) be_int) (bss_one (bs_expr (be_append 2 (pv 2) be_int))) bss_nil)
    (bss_cons (bs_set 3 c.nd (be_t1 c_list rfl n_list bt_list (be_var 2)))
    (bss_cons (bs_set 4 c.nd (be_lst bl_nil))
    (bss_cons (bs_for c.pass c.calm (bi_rng1 rfl n_range (be_var 1)) (bg_name 5 c.nd) (bss_fgt [5, 6, 7] (bss_cons (bs_set 6 c.nd (be_op ob_mod (be_var 5) (be_b1 c_len rfl n_len bt_len (be_var 2))))
    (bss_one (bs_if (bt_cmp ob_ge (be_ix (be_var 2) (be_var 6)) (be_op ob_pow be_int be_int)) (bss_cons (bs_expr (be_append 4 (pv 4) (be_op ob_mod (be_t1 c_int rfl n_int bt_int (be_ix (be_var 3) (be_var 6))) be_int)))
    (bss_one (bs_setIx 3 (pv 3) (be_var 6) (be_op (ob_div c.div) (be_ix (be_var 3) (be_var 6)) be_int)))) (bss_cons (bs_set 7 c.nd (be_op ob_mod (be_t1 c_int rfl n_int bt_int (be_op ob_add (be_op ob_add (be_op ob_mul (be_ix (be_var 2) (be_var 6)) be_int) (be_op ob_mul (be_var 5) be_int)) be_int)) be_int))
    (bss_one (bs_expr (be_append 4 (pv 4) (be_op ob_mod (be_t1 c_int rfl n_int bt_int (be_op ob_add (be_op ob_add (be_op ob_mul (be_var 7) (be_var 7)) (be_op ob_mul be_int (be_var 7))) (be_var 5))) be_int))))))))))
    (bss_cons (bs_expr (be_reverse 4 (pv 4)))
    (bss_one (bs_ret (be_var 4)))))))))
abbrev s_law_take : Stmt := topS 7
theorem sc_law_take : FnScope ["draws", "many"] ["draws", "many"] (defScope s_law_take) := ⟨rfl, rfl, rfl, by decide +kernel, rfl, by decide +kernel, by decide +kernel⟩
theorem bi_law_take (D : Df K mg "_law_take" s_law_take) : Binds K D.fd ["draws", "many"] [] := D.F.binds (ps := ["draws", "many"]) fun _ _ _ _ _ _ us hl => match us, hl with | [_, _], _ => rfl
theorem ok_law_take (hs : base.NoSeer) (ht : P.given.tree = none) (D_law_take : Df K mg "_law_take" s_law_take) (n_int : mg "int" = none) (n_len : mg "len" = none) : FnOk P w K mg base CX0 (41) D_law_take.f D_law_take.fd ["draws", "many"] (spOf K 2 d_law_take) :=
  ok_of D_law_take.F sc_law_take (by decide) hs ht fun cdv A outer s H E c =>
    (bss_cons (bs_if (bt_cmp (ob_eq c.units) (be_b1 c_len rfl n_len bt_len (be_var 0)) be_int) (bss_one (bs_ret be_int)) bss_nil)
    (bss_one (bs_ret (be_op ob_mod (be_t1 c_int rfl n_int bt_int (be_pop 0 (pv 0))) (be_var 1)))))
abbrev s_law_same : Stmt := topS 8
theorem sc_law_same : FnScope ["actual", "due", "k"] ["actual", "due"] (defScope s_law_same) := ⟨rfl, rfl, rfl, by decide +kernel, rfl, by decide +kernel, by decide +kernel⟩
theorem bi_law_same (D : Df K mg "_law_same" s_law_same) : Binds K D.fd ["actual", "due"] [] := D.F.binds (ps := ["actual", "due"]) fun _ _ _ _ _ _ us hl => match us, hl with | [_, _], _ => rfl
theorem ok_law_same (hs : base.NoSeer) (ht : P.given.tree = none) (D_law_same : Df K mg "_law_same" s_law_same) (n_bool : mg "bool" = none) (n_int : mg "int" = none) (n_isinstance : mg "isinstance" = none) (n_len : mg "len" = none) (n_range : mg "range" = none) (n_str : mg "str" = none) (n_tuple : mg "tuple" = none) : ∀ n : Nat, FnOk P w K mg base CX0 (40 + n) D_law_same.f D_law_same.fd ["actual", "due"] (spOf K 2 (d_law_same n))
  | 0 => ok_none rfl
  | n + 1 => by
    have G_law_same := ok_law_same hs ht D_law_same n_bool n_int n_isinstance n_len n_range n_str n_tuple n
    exact ok_of (k := 40 + n) D_law_same.F sc_law_same (by omega) hs ht fun cdv A outer s H E c =>
    (bss_cons (bs_if (bt_cmp ob_is (be_var 1) be_non) (bss_one (bs_ret (be_cmp ob_is (be_var 0) be_non))) bss_nil)
    (bss_cons (bs_if (bt_tru (be_isi .bool rfl n_isinstance bt_isinstance rfl n_bool bt_bool (be_var 1))) (bss_one (bs_ret (be_and (be_isi .bool rfl n_isinstance bt_isinstance rfl n_bool bt_bool (be_var 0)) (be_one (be_cmp (ob_eq c.units) (be_var 0) (be_var 1)))))) bss_nil)
    (bss_cons (bs_if (bt_tru (be_isi .int rfl n_isinstance bt_isinstance rfl n_int bt_int (be_var 1))) (bss_one (bs_ret (be_and (be_isi .int rfl n_isinstance bt_isinstance rfl n_int bt_int (be_var 0)) (be_and (be_not (be_isi .bool rfl n_isinstance bt_isinstance rfl n_bool bt_bool (be_var 0))) (be_one (be_cmp (ob_eq c.units) (be_var 0) (be_var 1))))))) bss_nil)
    (bss_cons (bs_if (bt_tru (be_isi .str rfl n_isinstance bt_isinstance rfl n_str bt_str (be_var 1))) (bss_one (bs_ret (be_and (be_isi .str rfl n_isinstance bt_isinstance rfl n_str bt_str (be_var 0)) (be_one (be_cmp (ob_eq c.units) (be_var 0) (be_var 1)))))) bss_nil)
    (bss_cons (bs_if (bt_w (bw_or (bt_not (bt_tru (be_isi .tuple rfl n_isinstance bt_isinstance rfl n_tuple bt_tuple (be_var 0)))) (bw_or1 (bt_cmp (ob_ne c.units) (be_b1 c_len rfl n_len bt_len (be_var 0)) (be_b1 c_len rfl n_len bt_len (be_var 1)))))) (bss_one (bs_ret be_bl)) bss_nil)
    (bss_cons (bs_for c.pass c.calm (bi_rng1 rfl n_range (be_b1 c_len rfl n_len bt_len (be_var 1))) (bg_name 2 c.nd) (bss_fgt [2] (bss_one (bs_if (bt_not (bt_tru (be_call G_law_same c.room rfl D_law_same.g D_law_same.F.kp (bi_law_same D_law_same) (ba_v (be_ix (be_var 0) (be_var 2)) (ba_v (be_ix (be_var 1) (be_var 2)) ba_nil))))) (bss_one (bs_ret be_bl)) bss_nil))))
    (bss_one (bs_ret be_bl))))))))
abbrev s_law_die : Stmt := topS 9
theorem sc_law_die : FnScope ["draws", "faces", "pips", "wide", "low", "k"] ["draws", "faces", "pips"] (defScope s_law_die) := ⟨rfl, rfl, rfl, by decide +kernel, rfl, by decide +kernel, by decide +kernel⟩
theorem bi_law_die (D : Df K mg "_law_die" s_law_die) : Binds K D.fd ["draws", "faces", "pips"] [] := D.F.binds (ps := ["draws", "faces", "pips"]) fun _ _ _ _ _ _ us hl => match us, hl with | [_, _, _], _ => rfl
theorem ok_law_die (hs : base.NoSeer) (ht : P.given.tree = none) (D_law_die : Df K mg "_law_die" s_law_die) (D_law_take : Df K mg "_law_take" s_law_take) (G_law_take : FnOk P w K mg base CX0 (41) D_law_take.f D_law_take.fd ["draws", "many"] (spOf K 2 d_law_take)) (n_min : mg "min" = none) (n_range : mg "range" = none) (n_sorted : mg "sorted" = none) (n_tuple : mg "tuple" = none) : FnOk P w K mg base CX0 (42) D_law_die.f D_law_die.fd ["draws", "faces", "pips"] (spOf K 3 d_law_die) :=
  ok_of D_law_die.F sc_law_die (by decide) hs ht fun cdv A outer s H E c =>
    (bss_cons (bs_set 3 c.nd (be_var 2))
    (bss_cons (bs_if (bt_cmp (ob_eq c.units) (be_call G_law_take (c.room.mono (by omega)) rfl D_law_take.g D_law_take.F.kp (bi_law_take D_law_take) (ba_r 0 (pv 0) (ba_v be_int ba_nil))) be_int) (bss_one (bs_set 3 c.nd (be_b2 (c_min2 c.calm) rfl n_min bt_min (be_var 2) be_int))) bss_nil)
    (bss_cons (bs_set 4 c.nd (be_op ob_add be_int (be_call G_law_take (c.room.mono (by omega)) rfl D_law_take.g D_law_take.F.kp (bi_law_take D_law_take) (ba_r 0 (pv 0) (ba_v (be_op ob_add (be_op ob_sub (be_var 2) (be_var 3)) be_int) ba_nil)))))
    (bss_one (bs_ret (be_t1 c_tuple rfl n_tuple bt_tuple (be_b1 c_sorted rfl n_sorted bt_sorted (be_lcN 5 [("k", 5)] c.calm c.nd (bi_rng1 rfl n_range (be_var 1)) (blk_at (N := ["draws", "faces", "pips", "wide", "low", "k"]) (sc := defScope s_law_die) rfl rfl (by decide +kernel)) (by decide) rfl (fun _ _ _ _ _ => pg_name (i := 5) c.nd rfl (.inl rfl)) (fun _ _ _ _ _ => bts_nil) (fun _ _ _ _ _ => (be_op ob_add (be_var 4) (be_call G_law_take (c.room.mono (by omega)) rfl D_law_take.g D_law_take.F.kp (bi_law_take D_law_take) (ba_r 0 (pv 0) (ba_v (be_var 3) ba_nil)))))))))))))
abbrev s_law_table : Stmt := topS 10
theorem sc_law_table : FnScope ["dice", "table", "one", "row", "number", "ahead", "face", "against"] ["dice"] (defScope s_law_table) := ⟨rfl, rfl, rfl, by decide +kernel, rfl, by decide +kernel, by decide +kernel⟩
theorem bi_law_table (D : Df K mg "_law_table" s_law_table) : Binds K D.fd ["dice"] [] := D.F.binds (ps := ["dice"]) fun _ _ _ _ _ _ us hl => match us, hl with | [_], _ => rfl
theorem ok_law_table (hs : base.NoSeer) (ht : P.given.tree = none) (D_law_table : Df K mg "_law_table" s_law_table) (n_int : mg "int" = none) (n_len : mg "len" = none) (n_range : mg "range" = none) : FnOk P w K mg base CX0 (41) D_law_table.f D_law_table.fd ["dice"] (spOf K 1 d_law_table) :=
  ok_of D_law_table.F sc_law_table (by decide) hs ht fun cdv A outer s H E c =>
    (bss_cons (bs_set 1 c.nd (be_lst bl_nil))
    (bss_cons (bs_for c.pass c.calm (bi_seq (be_frz (be_var 0))) (bg_name 2 c.nd) (bss_fgt [2, 3, 4, 5, 6, 7] (bss_cons (bs_set 3 c.nd (be_lst bl_nil))
    (bss_cons (bs_for c.pass c.calm (bi_rng1 rfl n_range (be_b1 c_len rfl n_len bt_len (be_var 0))) (bg_name 4 c.nd) (bss_fgt [4, 5, 6, 7] (bss_cons (bs_set 5 c.nd be_int)
    (bss_cons (bs_for c.pass c.calm (bi_seq (be_frz (be_var 2))) (bg_name 6 c.nd) (bss_fgt [6, 7] (bss_one (bs_for c.pass c.calm (bi_seq (be_ix (be_var 0) (be_var 4))) (bg_name 7 c.nd) (bss_fgt [7] (bss_one (bs_set 5 c.nd (be_op ob_sub (be_op ob_add (be_var 5) (be_t1 c_int rfl n_int bt_int (be_cmp ob_gt (be_var 6) (be_var 7)))) (be_t1 c_int rfl n_int bt_int (be_cmp ob_lt (be_var 6) (be_var 7)))))))))))
    (bss_one (bs_if (bt_cmp ob_gt (be_var 5) be_int) (bss_one (bs_expr (be_append 3 (pv 3) (be_var 4)))) bss_nil))))))
    (bss_one (bs_expr (be_append 1 (pv 1) (be_var 3))))))))
    (bss_one (bs_ret (be_var 1)))))
abbrev s_law_steps : Stmt := topS 11
theorem sc_law_steps : FnScope ["table", "many", "steps", "middle", "behind", "one", "here", "other"] ["table"] (defScope s_law_steps) := ⟨rfl, rfl, rfl, by decide +kernel, rfl, by decide +kernel, by decide +kernel⟩
theorem bi_law_steps (D : Df K mg "_law_steps" s_law_steps) : Binds K D.fd ["table"] [] := D.F.binds (ps := ["table"]) fun _ _ _ _ _ _ us hl => match us, hl with | [_], _ => rfl
theorem ok_law_steps (hs : base.NoSeer) (ht : P.given.tree = none) (D_law_steps : Df K mg "_law_steps" s_law_steps) (n_int : mg "int" = none) (n_len : mg "len" = none) (n_min : mg "min" = none) (n_range : mg "range" = none) : FnOk P w K mg base CX0 (41) D_law_steps.f D_law_steps.fd ["table"] (spOf K 1 d_law_steps) :=
  ok_of D_law_steps.F sc_law_steps (by decide) hs ht fun cdv A outer s H E c =>
    (bss_cons (bs_set 1 c.nd (be_b1 c_len rfl n_len bt_len (be_var 0)))
    (bss_cons (bs_set 2 c.nd (be_lcN 5 [("one", 5)] c.calm c.nd (bi_rng1 rfl n_range (be_var 1)) (blk_at (N := ["table", "many", "steps", "middle", "behind", "one", "here", "other"]) (sc := defScope s_law_steps) rfl rfl (by decide +kernel)) (by decide) rfl (fun _ _ _ _ _ => pg_name (i := 5) c.nd rfl (.inr rfl)) (fun _ _ _ _ _ => bts_nil) (fun _ _ _ _ _ => (be_lcN 7 [("other", 7)] c.calm c.nd (bi_rng1 rfl n_range (be_var 1)) (blk_in (N := ["table", "many", "steps", "middle", "behind", "one", "here", "other"]) (sc0 := defScope s_law_steps) rfl rfl (by decide +kernel)) (by decide) rfl (fun _ _ _ _ _ => pg_name (i := 7) c.nd rfl (.inl rfl)) (fun _ _ _ _ _ => bts_nil) (fun _ _ _ _ _ => (be_op ob_sub be_int (be_op ob_mul be_int (be_t1 c_int rfl n_int bt_int (be_cmp (ob_in c.unitsD) (be_var 7) (be_ix (be_var 0) (be_var 5)))))))))))
    (bss_cons (bs_for c.pass c.calm (bi_rng1 rfl n_range (be_var 1)) (bg_name 3 c.nd) (bss_fgt [3, 4, 5, 6] (bss_cons (bs_set 4 c.nd (be_ix (be_var 2) (be_var 3)))
    (bss_one (bs_for c.pass c.calm (bi_rng1 rfl n_range (be_var 1)) (bg_name 5 c.nd) (bss_fgt [5, 6] (bss_cons (bs_set 6 c.nd (be_ix (be_ix (be_var 2) (be_var 5)) (be_var 3)))
    (bss_one (bs_if (bt_cmp ob_lt (be_var 6) be_int) (bss_one (bs_setIx 2 (pv 2) (be_var 5) (be_lcN 7 [("other", 7)] c.calm c.nd (bi_rng1 rfl n_range (be_var 1)) (blk_at (N := ["table", "many", "steps", "middle", "behind", "one", "here", "other"]) (sc := defScope s_law_steps) rfl rfl (by decide +kernel)) (by decide) rfl (fun _ _ _ _ _ => pg_name (i := 7) c.nd rfl (.inl rfl)) (fun _ _ _ _ _ => bts_nil) (fun _ _ _ _ _ => (be_b2 (c_min2 c.calm) rfl n_min bt_min (be_ix (be_ix (be_var 2) (be_var 5)) (be_var 7)) (be_op ob_add (be_var 6) (be_ix (be_var 4) (be_var 7)))))))) bss_nil)))))))))
    (bss_one (bs_ret (be_var 2))))))
abbrev s_law_least_ring : Stmt := topS 12
theorem sc_law_least_ring : FnScope ["table", "many", "steps", "fewest", "first", "row", "left", "one", "other"] ["table"] (defScope s_law_least_ring) := ⟨rfl, rfl, rfl, by decide +kernel, rfl, by decide +kernel, by decide +kernel⟩
theorem bi_law_least_ring (D : Df K mg "_law_least_ring" s_law_least_ring) : Binds K D.fd ["table"] [] := D.F.binds (ps := ["table"]) fun _ _ _ _ _ _ us hl => match us, hl with | [_], _ => rfl
theorem ok_law_least_ring (hs : base.NoSeer) (ht : P.given.tree = none) (D_law_least_ring : Df K mg "_law_least_ring" s_law_least_ring) (D_law_steps : Df K mg "_law_steps" s_law_steps) (G_law_steps : FnOk P w K mg base CX0 (41) D_law_steps.f D_law_steps.fd ["table"] (spOf K 1 d_law_steps)) (n_len : mg "len" = none) (n_min : mg "min" = none) (n_range : mg "range" = none) (n_tuple : mg "tuple" = none) : FnOk P w K mg base CX0 (42) D_law_least_ring.f D_law_least_ring.fd ["table"] (spOf K 1 d_law_least_ring) :=
  ok_of D_law_least_ring.F sc_law_least_ring (by decide) hs ht fun cdv A outer s H E c =>
    (bss_cons (bs_set 1 c.nd (be_b1 c_len rfl n_len bt_len (be_var 0)))
    (bss_cons (bs_set 2 c.nd (be_call G_law_steps (c.room.mono (by omega)) rfl D_law_steps.g D_law_steps.F.kp (bi_law_steps D_law_steps) (ba_v (be_var 0) ba_nil)))
    (bss_cons (bs_set 3 c.nd (be_b1 (c_min c.calm) rfl n_min bt_min (be_op ob_add (be_lst (bl_cons be_int bl_nil)) (be_lcN 7 [("one", 7)] c.calm c.nd (bi_rng1 rfl n_range (be_var 1)) (blk_at (N := ["table", "many", "steps", "fewest", "first", "row", "left", "one", "other"]) (sc := defScope s_law_least_ring) rfl rfl (by decide +kernel)) (by decide) rfl (fun _ _ _ _ _ => pg_name (i := 7) c.nd rfl (.inl rfl)) (fun _ _ _ _ _ => bts_nil) (fun _ _ _ _ _ => (be_ix (be_ix (be_var 2) (be_var 7)) (be_var 7)))))))
    (bss_cons (bs_if (bt_cmp (ob_eq c.units) (be_var 3) be_int) (bss_one (bs_ret be_non)) bss_nil)
    (bss_cons (bs_set 4 c.nd (be_ix (be_lcN 7 [("one", 7)] c.calm c.nd (bi_rng1 rfl n_range (be_var 1)) (blk_at (N := ["table", "many", "steps", "fewest", "first", "row", "left", "one", "other"]) (sc := defScope s_law_least_ring) rfl rfl (by decide +kernel)) (by decide) rfl (fun _ _ _ _ _ => pg_name (i := 7) c.nd rfl (.inl rfl)) (fun _ _ _ _ _ => (bts_one (bt_cmp (ob_eq c.units) (be_ix (be_ix (be_var 2) (be_var 7)) (be_var 7)) (be_var 3)))) (fun _ _ _ _ _ => (be_var 7))) be_int))
    (bss_cons (bs_set 5 c.nd (be_lst (bl_cons (be_var 4) bl_nil)))
    (bss_cons (bs_for c.pass c.calm (bi_rngD rfl n_range (be_op ob_sub (be_var 3) be_int) be_int) (bg_name 6 c.nd) (bss_fgt [6] (bss_one (bs_expr (be_append 5 (pv 5) (be_ix (be_lcN 8 [("other", 8)] c.calm c.nd (bi_seq (be_ix (be_var 0) (be_ix (be_var 5) (be_neg be_int)))) (blk_at (N := ["table", "many", "steps", "fewest", "first", "row", "left", "one", "other"]) (sc := defScope s_law_least_ring) rfl rfl (by decide +kernel)) (by decide) rfl (fun _ _ _ _ _ => pg_name (i := 8) c.nd rfl (.inl rfl)) (fun _ _ _ _ _ => (bts_one (bt_cmp (ob_eq c.units) (be_ix (be_ix (be_var 2) (be_var 8)) (be_var 4)) (be_var 6)))) (fun _ _ _ _ _ => (be_var 8))) be_int))))))
    (bss_one (bs_ret (be_t1 c_tuple rfl n_tuple bt_tuple (be_var 5)))))))))))
abbrev s_law_first_ring : Stmt := topS 13
theorem sc_law_first_ring : FnScope ["table", "rows", "k", "longer", "row", "number"] ["table"] (defScope s_law_first_ring) := ⟨rfl, rfl, rfl, by decide +kernel, rfl, by decide +kernel, by decide +kernel⟩
theorem bi_law_first_ring (D : Df K mg "_law_first_ring" s_law_first_ring) : Binds K D.fd ["table"] [] := D.F.binds (ps := ["table"]) fun _ _ _ _ _ _ us hl => match us, hl with | [_], _ => rfl
theorem ok_law_first_ring (hs : base.NoSeer) (ht : P.given.tree = none) (D_law_first_ring : Df K mg "_law_first_ring" s_law_first_ring) (n_len : mg "len" = none) (n_range : mg "range" = none) : FnOk P w K mg base CX0 (41) D_law_first_ring.f D_law_first_ring.fd ["table"] (spOf K 1 d_law_first_ring) :=
  ok_of D_law_first_ring.F sc_law_first_ring (by decide) hs ht fun cdv A outer s H E c =>
    (bss_cons (bs_set 1 c.nd (be_lst (bl_cons (be_tup bl_nil) bl_nil)))
    (bss_cons (bs_fgt [1] (bs_for c.pass c.calm (bi_rng1 rfl n_range (be_b1 c_len rfl n_len bt_len (be_var 0))) (bg_name 2 c.nd) (bss_fgt [2, 3, 4, 5] (bss_cons (bs_set 3 c.nd (be_lst bl_nil))
    (bss_cons (bs_for c.pass c.calm (bi_seq (be_frz (be_var 1))) (bg_name 4 c.nd) (bss_fgt [4, 5] (bss_one (bs_for c.pass c.calm (bi_rng1 rfl n_range (be_b1 c_len rfl n_len bt_len (be_var 0))) (bg_name 5 c.nd) (bss_fgt [5] (bss_one (bs_if (bt_w (bw_and (bt_cmp (ob_notIn c.unitsD) (be_var 5) (be_var 4)) (bw_and1 (bt_w (bw_or (bt_cmp (ob_eq c.units) (be_b1 c_len rfl n_len bt_len (be_var 4)) be_int) (bw_or1 (bt_cmp (ob_in c.unitsD) (be_var 5) (be_ix (be_var 0) (be_ix (be_var 4) (be_neg be_int)))))))))) (bss_one (bs_expr (be_append 3 (pv 3) (be_op ob_add (be_var 4) (be_tup (bl_cons (be_var 5) bl_nil)))))) bss_nil)))))))
    (bss_cons (bs_for c.pass c.calm (bi_seq (be_frz (be_var 3))) (bg_name 4 c.nd) (bss_fgt [4] (bss_one (bs_if (bt_cmp (ob_in c.unitsD) (be_ix (be_var 4) be_int) (be_ix (be_var 0) (be_ix (be_var 4) (be_neg be_int)))) (bss_one (bs_ret (be_var 4))) bss_nil))))
    (bss_one (bs_set 1 c.nd (be_var 3)))))))))
    (bss_one (bs_ret be_non))))
abbrev s_law_known_k52_2 : Stmt := topS 14
theorem sc_law_known_k52_2 : FnScope ["draws", "three", "four", "by", "more", "die", "face"] ["draws"] (defScope s_law_known_k52_2) := ⟨rfl, rfl, rfl, by decide +kernel, rfl, by decide +kernel, by decide +kernel⟩
theorem bi_law_known_k52_2 (D : Df K mg "_law_known" s_law_known_k52_2) : Binds K D.fd ["draws"] [] := D.F.binds (ps := ["draws"]) fun _ _ _ _ _ _ us hl => match us, hl with | [_], _ => rfl
theorem ok_law_known_k52_2 (hs : base.NoSeer) (ht : P.given.tree = none) (D_law_known_k52_2 : Df K mg "_law_known" s_law_known_k52_2) (D_law_take : Df K mg "_law_take" s_law_take) (G_law_take : FnOk P w K mg base CX0 (41) D_law_take.f D_law_take.fd ["draws", "many"] (spOf K 2 d_law_take)) (n_sorted : mg "sorted" = none) (n_tuple : mg "tuple" = none) : FnOk P w K mg base CX0 (42) D_law_known_k52_2.f D_law_known_k52_2.fd ["draws"] (spOf K 1 d_law_known_k52_2) :=
  ok_of D_law_known_k52_2.F sc_law_known_k52_2 (by decide) hs ht fun cdv A outer s H E c =>
    (bss_cons (bs_set 1 c.nd (be_lst (bl_cons (be_tup (bl_cons be_int (bl_cons be_int (bl_cons be_int (bl_cons be_int (bl_cons be_int (bl_cons be_int bl_nil))))))) (bl_cons (be_tup (bl_cons be_int (bl_cons be_int (bl_cons be_int (bl_cons be_int (bl_cons be_int (bl_cons be_int bl_nil))))))) (bl_cons (be_tup (bl_cons be_int (bl_cons be_int (bl_cons be_int (bl_cons be_int (bl_cons be_int (bl_cons be_int bl_nil))))))) bl_nil)))))
    (bss_cons (bs_set 2 c.nd (be_lst (bl_cons (be_tup (bl_cons be_int (bl_cons be_int (bl_cons be_int (bl_cons be_int (bl_cons be_int (bl_cons be_int bl_nil))))))) (bl_cons (be_tup (bl_cons be_int (bl_cons be_int (bl_cons be_int (bl_cons be_int (bl_cons be_int (bl_cons be_int bl_nil))))))) (bl_cons (be_tup (bl_cons be_int (bl_cons be_int (bl_cons be_int (bl_cons be_int (bl_cons be_int (bl_cons be_int bl_nil))))))) (bl_cons (be_tup (bl_cons be_int (bl_cons be_int (bl_cons be_int (bl_cons be_int (bl_cons be_int (bl_cons be_int bl_nil))))))) bl_nil))))))
    (bss_cons (bs_set 3 c.nd (be_op ob_add be_int (be_call G_law_take (c.room.mono (by omega)) rfl D_law_take.g D_law_take.F.kp (bi_law_take D_law_take) (ba_r 0 (pv 0) (ba_v be_int ba_nil)))))
    (bss_cons (bs_set 4 c.nd (be_call G_law_take (c.room.mono (by omega)) rfl D_law_take.g D_law_take.F.kp (bi_law_take D_law_take) (ba_r 0 (pv 0) (ba_v be_int ba_nil))))
    (bss_one (bs_ret (be_lcN 5 [("die", 5)] c.calm c.nd (bi_seq (be_ix (be_lst (bl_cons (be_var 1) (bl_cons (be_var 2) (bl_cons (be_op ob_addL (be_var 1) (be_sl (be_var 2) bo_none (bo_some be_int))) bl_nil)))) (be_call G_law_take (c.room.mono (by omega)) rfl D_law_take.g D_law_take.F.kp (bi_law_take D_law_take) (ba_r 0 (pv 0) (ba_v be_int ba_nil))))) (blk_at (N := ["draws", "three", "four", "by", "more", "die", "face"]) (sc := defScope s_law_known_k52_2) rfl rfl (by decide +kernel)) (by decide) rfl (fun _ _ _ _ _ => pg_name (i := 5) c.nd rfl (.inl rfl)) (fun _ _ _ _ _ => bts_nil) (fun _ _ _ _ _ => (be_t1 c_tuple rfl n_tuple bt_tuple (be_b1 c_sorted rfl n_sorted bt_sorted (be_lcN 6 [("face", 6)] c.calm c.nd (bi_seq (be_frz (be_var 5))) (blk_in (N := ["draws", "three", "four", "by", "more", "die", "face"]) (sc0 := defScope s_law_known_k52_2) rfl rfl (by decide +kernel)) (by decide) rfl (fun _ _ _ _ _ => pg_name (i := 6) c.nd rfl (.inl rfl)) (fun _ _ _ _ _ => bts_nil) (fun _ _ _ _ _ => (be_op ob_add (be_op ob_mul (be_var 6) (be_var 3)) (be_var 4))))))))))))))
abbrev s_law_dice_k52 : Stmt := topS 15
theorem sc_law_dice_k52 : FnScope ["draws", "found", "k", "dice", "style"] ["draws"] (defScope s_law_dice_k52) := ⟨rfl, rfl, rfl, by decide +kernel, rfl, by decide +kernel, by decide +kernel⟩
theorem bi_law_dice_k52 (D : Df K mg "_law_dice" s_law_dice_k52) : Binds K D.fd ["draws"] [] := D.F.binds (ps := ["draws"]) fun _ _ _ _ _ _ us hl => match us, hl with | [_], _ => rfl
theorem ok_law_dice_k52 (hs : base.NoSeer) (ht : P.given.tree = none) (D_law_dice_k52 : Df K mg "_law_dice" s_law_dice_k52) (D_law_take : Df K mg "_law_take" s_law_take) (G_law_take : FnOk P w K mg base CX0 (41) D_law_take.f D_law_take.fd ["draws", "many"] (spOf K 2 d_law_take)) (D_law_known_k52_2 : Df K mg "_law_known" s_law_known_k52_2) (G_law_known_k52_2 : FnOk P w K mg base CX0 (42) D_law_known_k52_2.f D_law_known_k52_2.fd ["draws"] (spOf K 1 d_law_known_k52_2)) (D_law_die : Df K mg "_law_die" s_law_die) (G_law_die : FnOk P w K mg base CX0 (42) D_law_die.f D_law_die.fd ["draws", "faces", "pips"] (spOf K 3 d_law_die)) (n_len : mg "len" = none) (n_range : mg "range" = none) (n_tuple : mg "tuple" = none) : FnOk P w K mg base CX0 (43) D_law_dice_k52.f D_law_dice_k52.fd ["draws"] (spOf K 1 d_law_dice_k52) :=
  ok_of D_law_dice_k52.F sc_law_dice_k52 (by decide) hs ht fun cdv A outer s H E c =>
    (bss_cons (bs_set 1 c.nd (be_lst bl_nil))
    (bss_cons (bs_if (bt_cmp ob_gt (be_call G_law_take (c.room.mono (by omega)) rfl D_law_take.g D_law_take.F.kp (bi_law_take D_law_take) (ba_r 0 (pv 0) (ba_v be_int ba_nil))) be_int) (bss_one (bs_set 1 c.nd (be_call G_law_known_k52_2 (c.room.mono (by omega)) rfl D_law_known_k52_2.g D_law_known_k52_2.F.kp (bi_law_known_k52_2 D_law_known_k52_2) (ba_r 0 (pv 0) ba_nil)))) bss_nil)
    (bss_cons (bs_for c.pass c.calm (bi_rng1 rfl n_range (be_call G_law_take (c.room.mono (by omega)) rfl D_law_take.g D_law_take.F.kp (bi_law_take D_law_take) (ba_r 0 (pv 0) (ba_v be_int ba_nil)))) (bg_name 2 c.nd) (bss_fgt [2, 4] (bss_cons (bs_set 4 c.nd (be_call G_law_take (c.room.mono (by omega)) rfl D_law_take.g D_law_take.F.kp (bi_law_take D_law_take) (ba_r 0 (pv 0) (ba_v be_int ba_nil))))
    (bss_one (bs_if (bt_w (bw_and (bt_cmp (ob_eq c.units) (be_var 4) be_int) (bw_and1 (bt_cmp ob_gt (be_b1 c_len rfl n_len bt_len (be_var 1)) be_int)))) (bss_one (bs_expr (be_append 1 (pv 1) (be_ix (be_var 1) (be_call G_law_take (c.room.mono (by omega)) rfl D_law_take.g D_law_take.F.kp (bi_law_take D_law_take) (ba_r 0 (pv 0) (ba_v (be_b1 c_len rfl n_len bt_len (be_var 1)) ba_nil))))))) (bss_one (bs_expr (be_append 1 (pv 1) (be_call G_law_die (c.room.mono (by omega)) rfl D_law_die.g D_law_die.F.kp (bi_law_die D_law_die) (ba_r 0 (pv 0) (ba_v (be_op ob_add be_int (be_call G_law_take (c.room.mono (by omega)) rfl D_law_take.g D_law_take.F.kp (bi_law_take D_law_take) (ba_r 0 (pv 0) (ba_v (be_ix (be_lst (bl_cons be_int (bl_cons be_int bl_nil))) (be_call G_law_take (c.room.mono (by omega)) rfl D_law_take.g D_law_take.F.kp (bi_law_take D_law_take) (ba_r 0 (pv 0) (ba_v be_int ba_nil)))) ba_nil)))) (ba_v be_int ba_nil))))))))))))
    (bss_cons (bs_set 1 c.nd (be_sl (be_var 1) bo_none (bo_some be_int)))
    (bss_cons (bs_set 3 c.nd (be_lst bl_nil))
    (bss_cons (bs_for c.pass c.calm (bi_rng1 rfl n_range (be_b1 c_len rfl n_len bt_len (be_var 1))) (bg_name 2 c.nd) (bss_fgt [2] (bss_one (bs_expr (be_append 3 (pv 3) (be_popAt 1 (pv 1) (be_call G_law_take (c.room.mono (by omega)) rfl D_law_take.g D_law_take.F.kp (bi_law_take D_law_take) (ba_r 0 (pv 0) (ba_v (be_b1 c_len rfl n_len bt_len (be_var 1)) ba_nil)))))))))
    (bss_one (bs_ret (be_t1 c_tuple rfl n_tuple bt_tuple (be_var 3))))))))))
abbrev s_law_built : Stmt := topS 16
theorem sc_law_built : FnScope ["draws", "many", "order", "turned", "k", "size", "pairs", "dice", "number", "one", "faces", "own", "face"] ["draws"] (defScope s_law_built) := ⟨rfl, rfl, rfl, by decide +kernel, rfl, by decide +kernel, by decide +kernel⟩
theorem bi_law_built (D : Df K mg "_law_built" s_law_built) : Binds K D.fd ["draws"] [] := D.F.binds (ps := ["draws"]) fun _ _ _ _ _ _ us hl => match us, hl with | [_], _ => rfl
theorem ok_law_built (hs : base.NoSeer) (ht : P.given.tree = none) (D_law_built : Df K mg "_law_built" s_law_built) (D_law_take : Df K mg "_law_take" s_law_take) (G_law_take : FnOk P w K mg base CX0 (41) D_law_take.f D_law_take.fd ["draws", "many"] (spOf K 2 d_law_take)) (n_int : mg "int" = none) (n_len : mg "len" = none) (n_list : mg "list" = none) (n_min : mg "min" = none) (n_range : mg "range" = none) (n_tuple : mg "tuple" = none) : FnOk P w K mg base CX0 (42) D_law_built.f D_law_built.fd ["draws"] (spOf K 1 d_law_built) :=
  ok_of D_law_built.F sc_law_built (by decide) hs ht fun cdv A outer s H E c =>
    (bss_cons (bs_set 1 c.nd (be_op ob_add be_int (be_call G_law_take (c.room.mono (by omega)) rfl D_law_take.g D_law_take.F.kp (bi_law_take D_law_take) (ba_r 0 (pv 0) (ba_v be_int ba_nil)))))
    (bss_cons (bs_set 2 c.nd (be_lstR1 c.calm rfl n_list rfl n_range (be_var 1)))
    (bss_cons (bs_set 3 c.nd (be_lst bl_nil))
    (bss_cons (bs_for c.pass c.calm (bi_rng1 rfl n_range (be_var 1)) (bg_name 4 c.nd) (bss_fgt [] (bss_one (bs_expr (be_append 3 (pv 3) (be_popAt 2 (pv 2) (be_call G_law_take (c.room.mono (by omega)) rfl D_law_take.g D_law_take.F.kp (bi_law_take D_law_take) (ba_r 0 (pv 0) (ba_v (be_b1 c_len rfl n_len bt_len (be_var 2)) ba_nil)))))))))
    (bss_cons (bs_set 5 c.nd (be_op ob_add be_int (be_call G_law_take (c.room.mono (by omega)) rfl D_law_take.g D_law_take.F.kp (bi_law_take D_law_take) (ba_r 0 (pv 0) (ba_v (be_op ob_sub (be_b2 (c_min2 c.calm) rfl n_min bt_min (be_var 1) be_int) be_int) ba_nil)))))
    (bss_cons (bs_setLcN 6 4 [("k", 4)] c.calm c.nd rfl rfl (bi_rng1 rfl n_range (be_var 5)) (blk_at (N := ["draws", "many", "order", "turned", "k", "size", "pairs", "dice", "number", "one", "faces", "own", "face"]) (sc := defScope s_law_built) rfl rfl (by decide +kernel)) (by decide) rfl (sw_true rfl rfl rfl (by decide +kernel)) (fun _ _ _ _ _ => pg_name (i := 4) c.nd rfl (.inl rfl)) (fun _ _ _ _ _ => bts_nil) (fun _ _ _ _ _ => (be_tup (bl_cons (be_ix (be_var 3) (be_var 4)) (bl_cons (be_ix (be_var 3) (be_op ob_mod (be_t1 c_int rfl n_int bt_int (be_op ob_add (be_var 4) be_int)) (be_var 5))) bl_nil)))))
    (bss_cons (bs_for c.pass c.calm (bi_rng1 rfl n_range (be_call G_law_take (c.room.mono (by omega)) rfl D_law_take.g D_law_take.F.kp (bi_law_take D_law_take) (ba_r 0 (pv 0) (ba_v (be_op ob_sub be_int (be_var 5)) ba_nil)))) (bg_name 4 c.nd) (bss_fgt [4, 9] (bss_cons (bs_set 9 c.nd (be_call G_law_take (c.room.mono (by omega)) rfl D_law_take.g D_law_take.F.kp (bi_law_take D_law_take) (ba_r 0 (pv 0) (ba_v (be_var 1) ba_nil))))
    (bss_one (bs_expr (be_append 6 (pv 6) (be_tup (bl_cons (be_var 9) (bl_cons (be_op ob_mod (be_t1 c_int rfl n_int bt_int (be_op ob_add (be_op ob_add (be_var 9) be_int) (be_call G_law_take (c.room.mono (by omega)) rfl D_law_take.g D_law_take.F.kp (bi_law_take D_law_take) (ba_r 0 (pv 0) (ba_v (be_op ob_sub (be_var 1) be_int) ba_nil))))) (be_var 1)) bl_nil)))))))))
    (bss_cons (bs_if (bt_cmp (ob_eq c.units) (be_call G_law_take (c.room.mono (by omega)) rfl D_law_take.g D_law_take.F.kp (bi_law_take D_law_take) (ba_r 0 (pv 0) (ba_v be_int ba_nil))) be_int) (bss_one (bs_expr (be_popAt 6 (pv 6) (be_call G_law_take (c.room.mono (by omega)) rfl D_law_take.g D_law_take.F.kp (bi_law_take D_law_take) (ba_r 0 (pv 0) (ba_v (be_b1 c_len rfl n_len bt_len (be_var 6)) ba_nil)))))) bss_nil)
    (bss_cons (bs_set 7 c.nd (be_lst bl_nil))
    (bss_cons (bs_for c.pass c.calm (bi_rng1 rfl n_range (be_var 1)) (bg_name 8 c.nd) (bss_fgt [4, 8, 10, 11] (bss_cons (bs_set 10 c.nd (be_lst bl_nil))
    (bss_cons (bs_for c.pass c.calm (bi_rng1 rfl n_range (be_b1 c_len rfl n_len bt_len (be_var 6))) (bg_name 4 c.nd) (bss_fgt [4, 11] (bss_cons (bs_set 11 c.nd (be_lst (bl_cons be_int (bl_cons be_int bl_nil))))
    (bss_cons (bs_if (bt_cmp (ob_eq c.units) (be_var 8) (be_ix (be_ix (be_var 6) (be_var 4)) be_int)) (bss_one (bs_set 11 c.nd (be_lst (bl_cons be_int (bl_cons be_int bl_nil))))) bss_nil)
    (bss_cons (bs_if (bt_cmp (ob_eq c.units) (be_var 8) (be_ix (be_ix (be_var 6) (be_var 4)) be_int)) (bss_one (bs_set 11 c.nd (be_lst (bl_cons be_int (bl_cons be_int bl_nil))))) bss_nil)
    (bss_one (bs_set 10 c.nd (be_op ob_add (be_var 10) (be_lcN 12 [("face", 12)] c.calm c.nd (bi_seq (be_frz (be_var 11))) (blk_at (N := ["draws", "many", "order", "turned", "k", "size", "pairs", "dice", "number", "one", "faces", "own", "face"]) (sc := defScope s_law_built) rfl rfl (by decide +kernel)) (by decide) rfl (fun _ _ _ _ _ => pg_name (i := 12) c.nd rfl (.inl rfl)) (fun _ _ _ _ _ => bts_nil) (fun _ _ _ _ _ => (be_op ob_add (be_op ob_mul be_int (be_var 4)) (be_var 12))))))))))))
    (bss_one (bs_expr (be_append 7 (pv 7) (be_t1 c_tuple rfl n_tuple bt_tuple (be_var 10)))))))))
    (bss_one (bs_ret (be_t1 c_tuple rfl n_tuple bt_tuple (be_var 7))))))))))))))
abbrev s_law_right_k52_2 : Stmt := topS 17
theorem sc_law_right_k52_2 : FnScope ["dice", "table", "due"] ["dice"] (defScope s_law_right_k52_2) := ⟨rfl, rfl, rfl, by decide +kernel, rfl, by decide +kernel, by decide +kernel⟩
theorem bi_law_right_k52_2 (D : Df K mg "_law_right" s_law_right_k52_2) : Binds K D.fd ["dice"] [] := D.F.binds (ps := ["dice"]) fun _ _ _ _ _ _ us hl => match us, hl with | [_], _ => rfl
theorem ok_law_right_k52_2 (hs : base.NoSeer) (ht : P.given.tree = none) (D_law_right_k52_2 : Df K mg "_law_right" s_law_right_k52_2) (D_law_table : Df K mg "_law_table" s_law_table) (G_law_table : FnOk P w K mg base CX0 (41) D_law_table.f D_law_table.fd ["dice"] (spOf K 1 d_law_table)) (D_law_least_ring : Df K mg "_law_least_ring" s_law_least_ring) (G_law_least_ring : FnOk P w K mg base CX0 (42) D_law_least_ring.f D_law_least_ring.fd ["table"] (spOf K 1 d_law_least_ring)) (D_law_first_ring : Df K mg "_law_first_ring" s_law_first_ring) (G_law_first_ring : FnOk P w K mg base CX0 (41) D_law_first_ring.f D_law_first_ring.fd ["table"] (spOf K 1 d_law_first_ring)) (D_law_same : Df K mg "_law_same" s_law_same) (G_law_same : FnOk P w K mg base CX0 (80) D_law_same.f D_law_same.fd ["actual", "due"] (spOf K 2 (d_law_same 40))) (D_ring_k52 : Df K mg "ring" s_ring_k52) (G_ring_k52 : FnOk P w K mg base CX0 (43) D_ring_k52.f D_ring_k52.fd ["dice"] (spOf K 1 d_ring_k52)) (n_len : mg "len" = none) : FnOk P w K mg base CX0 (81) D_law_right_k52_2.f D_law_right_k52_2.fd ["dice"] (spOf K 1 d_law_right_k52_2) :=
  ok_of D_law_right_k52_2.F sc_law_right_k52_2 (by decide) hs ht fun cdv A outer s H E c =>
    (bss_cons (bs_set 1 c.nd (be_call G_law_table (c.room.mono (by omega)) rfl D_law_table.g D_law_table.F.kp (bi_law_table D_law_table) (ba_v (be_var 0) ba_nil)))
    (bss_cons (bs_set 2 c.nd (be_call G_law_least_ring (c.room.mono (by omega)) rfl D_law_least_ring.g D_law_least_ring.F.kp (bi_law_least_ring D_law_least_ring) (ba_v (be_var 1) ba_nil)))
    (bss_cons (bs_if (bt_cmp ob_lt (be_b1 c_len rfl n_len bt_len (be_var 0)) be_int) (bss_one (bs_set 2 c.nd (be_call G_law_first_ring (c.room.mono (by omega)) rfl D_law_first_ring.g D_law_first_ring.F.kp (bi_law_first_ring D_law_first_ring) (ba_v (be_var 1) ba_nil)))) bss_nil)
    (bss_cons (bs_if (bt_not (bt_tru (be_call G_law_same (c.room.mono (by omega)) rfl D_law_same.g D_law_same.F.kp (bi_law_same D_law_same) (ba_v (be_call G_ring_k52 (c.room.mono (by omega)) rfl D_ring_k52.g D_ring_k52.F.kp (bi_ring_k52 D_ring_k52) (ba_v (be_var 0) ba_nil)) (ba_v (be_var 2) ba_nil))))) (bss_one (bs_ret be_non)) bss_nil)
    (bss_one (bs_ret (be_lst (bl_cons (be_var 2) bl_nil))))))))
abbrev s_law_k52_3 : Stmt := topS 18
theorem sc_law_k52_3 : FnScope ["script", "draws", "dice", "told", "three", "at"] ["script"] (defScope s_law_k52_3) := ⟨rfl, rfl, rfl, by decide +kernel, rfl, by decide +kernel, by decide +kernel⟩
theorem ok_law_k52_3 (hs : base.NoSeer) (ht : P.given.tree = none) (D_law_k52_3 : Df K mg "law" s_law_k52_3) (D_law_draws : Df K mg "_law_draws" s_law_draws) (G_law_draws : FnOk P w K mg base CX0 (41) D_law_draws.f D_law_draws.fd ["script", "many"] (spOf K 2 d_law_draws)) (D_law_dice_k52 : Df K mg "_law_dice" s_law_dice_k52) (G_law_dice_k52 : FnOk P w K mg base CX0 (43) D_law_dice_k52.f D_law_dice_k52.fd ["draws"] (spOf K 1 d_law_dice_k52)) (D_law_right_k52_2 : Df K mg "_law_right" s_law_right_k52_2) (G_law_right_k52_2 : FnOk P w K mg base CX0 (81) D_law_right_k52_2.f D_law_right_k52_2.fd ["dice"] (spOf K 1 d_law_right_k52_2)) (D_law_same : Df K mg "_law_same" s_law_same) (G_law_same : FnOk P w K mg base CX0 (80) D_law_same.f D_law_same.fd ["actual", "due"] (spOf K 2 (d_law_same 40))) (D_law_take : Df K mg "_law_take" s_law_take) (G_law_take : FnOk P w K mg base CX0 (41) D_law_take.f D_law_take.fd ["draws", "many"] (spOf K 2 d_law_take)) (D_law_built : Df K mg "_law_built" s_law_built) (G_law_built : FnOk P w K mg base CX0 (42) D_law_built.f D_law_built.fd ["draws"] (spOf K 1 d_law_built)) (D_ring_k52 : Df K mg "ring" s_ring_k52) (G_ring_k52 : FnOk P w K mg base CX0 (43) D_ring_k52.f D_ring_k52.fd ["dice"] (spOf K 1 d_ring_k52)) (n_len : mg "len" = none) : FnOk P w K mg base CX0 (82) D_law_k52_3.f D_law_k52_3.fd ["script"] (spOf K 1 d_law_k52_3) :=
  ok_of D_law_k52_3.F sc_law_k52_3 (by decide) hs ht fun cdv A outer s H E c =>
    (bss_cons (bs_set 1 c.nd (be_call G_law_draws (c.room.mono (by omega)) rfl D_law_draws.g D_law_draws.F.kp (bi_law_draws D_law_draws) (ba_v (be_var 0) (ba_v be_int ba_nil))))
    (bss_cons (bs_set 2 c.nd (be_call G_law_dice_k52 (c.room.mono (by omega)) rfl D_law_dice_k52.g D_law_dice_k52.F.kp (bi_law_dice_k52 D_law_dice_k52) (ba_r 1 (pv 1) ba_nil)))
    (bss_cons (bs_set 3 c.nd (be_call G_law_right_k52_2 (c.room.mono (by omega)) rfl D_law_right_k52_2.g D_law_right_k52_2.F.kp (bi_law_right_k52_2 D_law_right_k52_2) (ba_v (be_var 2) ba_nil)))
    (bss_cons (bs_if (bt_w (bw_or (bt_cmp ob_is (be_var 3) be_non) (bw_or1 (bt_not (bt_tru (be_call G_law_same (c.room.mono (by omega)) rfl D_law_same.g D_law_same.F.kp (bi_law_same D_law_same) (ba_v (be_call G_ring_k52 (c.room.mono (by omega)) rfl D_ring_k52.g D_ring_k52.F.kp (bi_ring_k52 D_ring_k52) (ba_v (be_var 2) ba_nil)) (ba_v (be_ix (be_var 3) be_int) ba_nil)))))))) (bss_one (bs_ret be_bl)) bss_nil)
    (bss_cons (bs_if (bt_cmp ob_isNot (be_ix (be_var 3) be_int) be_non) (bss_cons (bs_set 5 c.nd (be_ix (be_ix (be_var 3) be_int) (be_call G_law_take (c.room.mono (by omega)) rfl D_law_take.g D_law_take.F.kp (bi_law_take D_law_take) (ba_r 1 (pv 1) (ba_v (be_b1 c_len rfl n_len bt_len (be_ix (be_var 3) be_int)) ba_nil)))))
    (bss_one (bs_if (bt_cmp ob_is (be_call G_law_right_k52_2 (c.room.mono (by omega)) rfl D_law_right_k52_2.g D_law_right_k52_2.F.kp (bi_law_right_k52_2 D_law_right_k52_2) (ba_v (be_op ob_add (be_sl (be_var 2) bo_none (bo_some (be_var 5))) (be_sl (be_var 2) (bo_some (be_op ob_add (be_var 5) be_int)) bo_none)) ba_nil)) be_non) (bss_one (bs_ret be_bl)) bss_nil))) bss_nil)
    (bss_cons (bs_if (bt_cmp ob_is (be_call G_law_right_k52_2 (c.room.mono (by omega)) rfl D_law_right_k52_2.g D_law_right_k52_2.F.kp (bi_law_right_k52_2 D_law_right_k52_2) (ba_v (be_call G_law_built (c.room.mono (by omega)) rfl D_law_built.g D_law_built.F.kp (bi_law_built D_law_built) (ba_r 1 (pv 1) ba_nil)) ba_nil)) be_non) (bss_one (bs_ret be_bl)) bss_nil)
    (bss_cons (bs_set 4 c.nd (be_tup (bl_cons (be_tup (bl_cons be_int (bl_cons be_int (bl_cons be_int bl_nil)))) (bl_cons (be_tup (bl_cons be_int (bl_cons be_int (bl_cons be_int bl_nil)))) (bl_cons (be_tup (bl_cons be_int (bl_cons be_int (bl_cons be_int bl_nil)))) bl_nil)))))
    (bss_one (bs_ret (be_and (be_call G_law_same (c.room.mono (by omega)) rfl D_law_same.g D_law_same.F.kp (bi_law_same D_law_same) (ba_v (be_call G_ring_k52 (c.room.mono (by omega)) rfl D_ring_k52.g D_ring_k52.F.kp (bi_ring_k52 D_ring_k52) (ba_v (be_var 4) ba_nil)) (ba_v (be_tup (bl_cons be_int (bl_cons be_int (bl_cons be_int bl_nil)))) ba_nil))) (be_one (be_cmp ob_is (be_call G_ring_k52 (c.room.mono (by omega)) rfl D_ring_k52.g D_ring_k52.F.kp (bi_ring_k52 D_ring_k52) (ba_v (be_tup (bl_cons (be_tup (bl_cons be_int (bl_cons be_int bl_nil))) (bl_cons (be_tup (bl_cons be_int (bl_cons be_int bl_nil))) (bl_cons (be_tup (bl_cons be_int bl_nil)) bl_nil)))) ba_nil)) be_non))))))))))))
end
theorem all_mk {l : PySem.W.OpenLaw} {w : World} {K : PySem.W.Frag} {h : Heap} {mg : Str → Option Value} {fa f0 f1 f2 f3 f4 f5 f6 f7 f8 f9 f10 f11 f12 f13 f14 f15 f16 : Addr} {od0 an0 od1 an1 od2 an2 od3 an3 od4 an4 od5 an5 od6 an6 od7 an7 od8 an8 od9 an9 od10 an10 od11 an11 od12 an12 od13 an13 od14 an14 od15 an15 od16 an16 : Option Addr} {sl0 sl1 sl2 sl3 sl4 sl5 sl6 sl7 sl8 sl9 sl10 sl11 sl12 sl13 sl14 sl15 sl16 : Array (Option Value)} {oc0 kV0 dc0 pm0 cd0 ct0 oc1 kV1 dc1 pm1 cd1 ct1 oc2 kV2 dc2 pm2 cd2 ct2 oc3 kV3 dc3 pm3 cd3 ct3 oc4 kV4 dc4 pm4 cd4 ct4 oc5 kV5 dc5 pm5 cd5 ct5 oc6 kV6 dc6 pm6 cd6 ct6 oc7 kV7 dc7 pm7 cd7 ct7 oc8 kV8 dc8 pm8 cd8 ct8 oc9 kV9 dc9 pm9 cd9 ct9 oc10 kV10 dc10 pm10 cd10 ct10 oc11 kV11 dc11 pm11 cd11 ct11 oc12 kV12 dc12 pm12 cd12 ct12 oc13 kV13 dc13 pm13 cd13 ct13 oc14 kV14 dc14 pm14 cd14 ct14 oc15 kV15 dc15 pm15 cd15 ct15 oc16 kV16 dc16 pm16 cd16 ct16 : Value} (ht : l.prog.given.tree = none) (X : K.In h) (G : h.Ns mainGlobals mg) (hfa : mg "law" = some (.ref fa)) (a0 : PySem.W.nsIn K mainGlobals "beats" = some (some (.ref f0))) (l0 : K.lookup f0 = some ⟨oc0, od0, .func (PySem.W.fnOf "beats" "beats" (defArgs s_beats) (defBody s_beats) (defScope s_beats) .none kV0 dc0 pm0 an0 cd0 ct0), sl0⟩) (c0 : PySem.W.codeIn K cd0 "beats" = true) (k0 : PySem.W.keepIn K (.ref f0) = true) (a1 : PySem.W.nsIn K mainGlobals "rounds_back" = some (some (.ref f1))) (l1 : K.lookup f1 = some ⟨oc1, od1, .func (PySem.W.fnOf "rounds_back" "rounds_back" (defArgs s_rounds_back) (defBody s_rounds_back) (defScope s_rounds_back) .none kV1 dc1 pm1 an1 cd1 ct1), sl1⟩) (c1 : PySem.W.codeIn K cd1 "rounds_back" = true) (k1 : PySem.W.keepIn K (.ref f1) = true) (a2 : PySem.W.nsIn K mainGlobals "ring_from" = some (some (.ref f2))) (l2 : K.lookup f2 = some ⟨oc2, od2, .func (PySem.W.fnOf "ring_from" "ring_from" (defArgs s_ring_from) (defBody s_ring_from) (defScope s_ring_from) .none kV2 dc2 pm2 an2 cd2 ct2), sl2⟩) (c2 : PySem.W.codeIn K cd2 "ring_from" = true) (k2 : PySem.W.keepIn K (.ref f2) = true) (a3 : PySem.W.nsIn K mainGlobals "ring" = some (some (.ref f3))) (l3 : K.lookup f3 = some ⟨oc3, od3, .func (PySem.W.fnOf "ring" "ring" (defArgs s_ring_k52) (defBody s_ring_k52) (defScope s_ring_k52) .none kV3 dc3 pm3 an3 cd3 ct3), sl3⟩) (c3 : PySem.W.codeIn K cd3 "ring" = true) (k3 : PySem.W.keepIn K (.ref f3) = true) (a4 : PySem.W.nsIn K mainGlobals "_law_draws" = some (some (.ref f4))) (l4 : K.lookup f4 = some ⟨oc4, od4, .func (PySem.W.fnOf "_law_draws" "_law_draws" (defArgs s_law_draws) (defBody s_law_draws) (defScope s_law_draws) .none kV4 dc4 pm4 an4 cd4 ct4), sl4⟩) (c4 : PySem.W.codeIn K cd4 "_law_draws" = true) (k4 : PySem.W.keepIn K (.ref f4) = true) (a5 : PySem.W.nsIn K mainGlobals "_law_take" = some (some (.ref f5))) (l5 : K.lookup f5 = some ⟨oc5, od5, .func (PySem.W.fnOf "_law_take" "_law_take" (defArgs s_law_take) (defBody s_law_take) (defScope s_law_take) .none kV5 dc5 pm5 an5 cd5 ct5), sl5⟩) (c5 : PySem.W.codeIn K cd5 "_law_take" = true) (k5 : PySem.W.keepIn K (.ref f5) = true) (a6 : PySem.W.nsIn K mainGlobals "_law_same" = some (some (.ref f6))) (l6 : K.lookup f6 = some ⟨oc6, od6, .func (PySem.W.fnOf "_law_same" "_law_same" (defArgs s_law_same) (defBody s_law_same) (defScope s_law_same) .none kV6 dc6 pm6 an6 cd6 ct6), sl6⟩) (c6 : PySem.W.codeIn K cd6 "_law_same" = true) (k6 : PySem.W.keepIn K (.ref f6) = true) (a7 : PySem.W.nsIn K mainGlobals "_law_die" = some (some (.ref f7))) (l7 : K.lookup f7 = some ⟨oc7, od7, .func (PySem.W.fnOf "_law_die" "_law_die" (defArgs s_law_die) (defBody s_law_die) (defScope s_law_die) .none kV7 dc7 pm7 an7 cd7 ct7), sl7⟩) (c7 : PySem.W.codeIn K cd7 "_law_die" = true) (k7 : PySem.W.keepIn K (.ref f7) = true) (a8 : PySem.W.nsIn K mainGlobals "_law_table" = some (some (.ref f8))) (l8 : K.lookup f8 = some ⟨oc8, od8, .func (PySem.W.fnOf "_law_table" "_law_table" (defArgs s_law_table) (defBody s_law_table) (defScope s_law_table) .none kV8 dc8 pm8 an8 cd8 ct8), sl8⟩) (c8 : PySem.W.codeIn K cd8 "_law_table" = true) (k8 : PySem.W.keepIn K (.ref f8) = true) (a9 : PySem.W.nsIn K mainGlobals "_law_steps" = some (some (.ref f9))) (l9 : K.lookup f9 = some ⟨oc9, od9, .func (PySem.W.fnOf "_law_steps" "_law_steps" (defArgs s_law_steps) (defBody s_law_steps) (defScope s_law_steps) .none kV9 dc9 pm9 an9 cd9 ct9), sl9⟩) (c9 : PySem.W.codeIn K cd9 "_law_steps" = true) (k9 : PySem.W.keepIn K (.ref f9) = true) (a10 : PySem.W.nsIn K mainGlobals "_law_least_ring" = some (some (.ref f10))) (l10 : K.lookup f10 = some ⟨oc10, od10, .func (PySem.W.fnOf "_law_least_ring" "_law_least_ring" (defArgs s_law_least_ring) (defBody s_law_least_ring) (defScope s_law_least_ring) .none kV10 dc10 pm10 an10 cd10 ct10), sl10⟩) (c10 : PySem.W.codeIn K cd10 "_law_least_ring" = true) (k10 : PySem.W.keepIn K (.ref f10) = true) (a11 : PySem.W.nsIn K mainGlobals "_law_first_ring" = some (some (.ref f11))) (l11 : K.lookup f11 = some ⟨oc11, od11, .func (PySem.W.fnOf "_law_first_ring" "_law_first_ring" (defArgs s_law_first_ring) (defBody s_law_first_ring) (defScope s_law_first_ring) .none kV11 dc11 pm11 an11 cd11 ct11), sl11⟩) (c11 : PySem.W.codeIn K cd11 "_law_first_ring" = true) (k11 : PySem.W.keepIn K (.ref f11) = true) (a12 : PySem.W.nsIn K mainGlobals "_law_known" = some (some (.ref f12))) (l12 : K.lookup f12 = some ⟨oc12, od12, .func (PySem.W.fnOf "_law_known" "_law_known" (defArgs s_law_known_k52_2) (defBody s_law_known_k52_2) (defScope s_law_known_k52_2) .none kV12 dc12 pm12 an12 cd12 ct12), sl12⟩) (c12 : PySem.W.codeIn K cd12 "_law_known" = true) (k12 : PySem.W.keepIn K (.ref f12) = true) (a13 : PySem.W.nsIn K mainGlobals "_law_dice" = some (some (.ref f13))) (l13 : K.lookup f13 = some ⟨oc13, od13, .func (PySem.W.fnOf "_law_dice" "_law_dice" (defArgs s_law_dice_k52) (defBody s_law_dice_k52) (defScope s_law_dice_k52) .none kV13 dc13 pm13 an13 cd13 ct13), sl13⟩) (c13 : PySem.W.codeIn K cd13 "_law_dice" = true) (k13 : PySem.W.keepIn K (.ref f13) = true) (a14 : PySem.W.nsIn K mainGlobals "_law_built" = some (some (.ref f14))) (l14 : K.lookup f14 = some ⟨oc14, od14, .func (PySem.W.fnOf "_law_built" "_law_built" (defArgs s_law_built) (defBody s_law_built) (defScope s_law_built) .none kV14 dc14 pm14 an14 cd14 ct14), sl14⟩) (c14 : PySem.W.codeIn K cd14 "_law_built" = true) (k14 : PySem.W.keepIn K (.ref f14) = true) (a15 : PySem.W.nsIn K mainGlobals "_law_right" = some (some (.ref f15))) (l15 : K.lookup f15 = some ⟨oc15, od15, .func (PySem.W.fnOf "_law_right" "_law_right" (defArgs s_law_right_k52_2) (defBody s_law_right_k52_2) (defScope s_law_right_k52_2) .none kV15 dc15 pm15 an15 cd15 ct15), sl15⟩) (c15 : PySem.W.codeIn K cd15 "_law_right" = true) (k15 : PySem.W.keepIn K (.ref f15) = true) (a16 : PySem.W.nsIn K mainGlobals "law" = some (some (.ref f16))) (l16 : K.lookup f16 = some ⟨oc16, od16, .func (PySem.W.fnOf "law" "law" (defArgs s_law_k52_3) (defBody s_law_k52_3) (defScope s_law_k52_3) .none kV16 dc16 pm16 an16 cd16 ct16), sl16⟩) (c16 : PySem.W.codeIn K cd16 "law" = true) (k16 : PySem.W.keepIn K (.ref f16) = true) (z_any : PySem.W.nsIn K mainGlobals "any" = some none) (z_bool : PySem.W.nsIn K mainGlobals "bool" = some none) (z_int : PySem.W.nsIn K mainGlobals "int" = some none) (z_isinstance : PySem.W.nsIn K mainGlobals "isinstance" = some none) (z_len : PySem.W.nsIn K mainGlobals "len" = some none) (z_list : PySem.W.nsIn K mainGlobals "list" = some none) (z_min : PySem.W.nsIn K mainGlobals "min" = some none) (z_range : PySem.W.nsIn K mainGlobals "range" = some none) (z_sorted : PySem.W.nsIn K mainGlobals "sorted" = some none) (z_str : PySem.W.nsIn K mainGlobals "str" = some none) (z_tuple : PySem.W.nsIn K mainGlobals "tuple" = some none) :
    ∃ fd : FuncData, (∀ (s : Shared) (v : Value), BindsTo s fd ⟨[v], []⟩ [("script", v)]) ∧ ∀ base : Heap, K.In base → base.Ns mainGlobals mg → base.NoSeer → FnOk l.prog w K mg base CX0 82 fa fd ["script"] (spOf K 1 d_law_k52_3) := by
  have e := hfa.symm.trans (PySem.W.mg_of X G a16)
  cases e
  let D_beats : Df K mg "beats" s_beats := ⟨f0, _, fun_mk l0 c0 k0, PySem.W.mg_of X G a0⟩
  let D_rounds_back : Df K mg "rounds_back" s_rounds_back := ⟨f1, _, fun_mk l1 c1 k1, PySem.W.mg_of X G a1⟩
  let D_ring_from : Df K mg "ring_from" s_ring_from := ⟨f2, _, fun_mk l2 c2 k2, PySem.W.mg_of X G a2⟩
  let D_ring_k52 : Df K mg "ring" s_ring_k52 := ⟨f3, _, fun_mk l3 c3 k3, PySem.W.mg_of X G a3⟩
  let D_law_draws : Df K mg "_law_draws" s_law_draws := ⟨f4, _, fun_mk l4 c4 k4, PySem.W.mg_of X G a4⟩
  let D_law_take : Df K mg "_law_take" s_law_take := ⟨f5, _, fun_mk l5 c5 k5, PySem.W.mg_of X G a5⟩
  let D_law_same : Df K mg "_law_same" s_law_same := ⟨f6, _, fun_mk l6 c6 k6, PySem.W.mg_of X G a6⟩
  let D_law_die : Df K mg "_law_die" s_law_die := ⟨f7, _, fun_mk l7 c7 k7, PySem.W.mg_of X G a7⟩
  let D_law_table : Df K mg "_law_table" s_law_table := ⟨f8, _, fun_mk l8 c8 k8, PySem.W.mg_of X G a8⟩
  let D_law_steps : Df K mg "_law_steps" s_law_steps := ⟨f9, _, fun_mk l9 c9 k9, PySem.W.mg_of X G a9⟩
  let D_law_least_ring : Df K mg "_law_least_ring" s_law_least_ring := ⟨f10, _, fun_mk l10 c10 k10, PySem.W.mg_of X G a10⟩
  let D_law_first_ring : Df K mg "_law_first_ring" s_law_first_ring := ⟨f11, _, fun_mk l11 c11 k11, PySem.W.mg_of X G a11⟩
  let D_law_known_k52_2 : Df K mg "_law_known" s_law_known_k52_2 := ⟨f12, _, fun_mk l12 c12 k12, PySem.W.mg_of X G a12⟩
  let D_law_dice_k52 : Df K mg "_law_dice" s_law_dice_k52 := ⟨f13, _, fun_mk l13 c13 k13, PySem.W.mg_of X G a13⟩
  let D_law_built : Df K mg "_law_built" s_law_built := ⟨f14, _, fun_mk l14 c14 k14, PySem.W.mg_of X G a14⟩
  let D_law_right_k52_2 : Df K mg "_law_right" s_law_right_k52_2 := ⟨f15, _, fun_mk l15 c15 k15, PySem.W.mg_of X G a15⟩
  let D_law_k52_3 : Df K mg "law" s_law_k52_3 := ⟨fa, _, fun_mk l16 c16 k16, PySem.W.mg_of X G a16⟩
  have n_any := PySem.W.mg_none_of X G z_any
  have n_bool := PySem.W.mg_none_of X G z_bool
  have n_int := PySem.W.mg_none_of X G z_int
  have n_isinstance := PySem.W.mg_none_of X G z_isinstance
  have n_len := PySem.W.mg_none_of X G z_len
  have n_list := PySem.W.mg_none_of X G z_list
  have n_min := PySem.W.mg_none_of X G z_min
  have n_range := PySem.W.mg_none_of X G z_range
  have n_sorted := PySem.W.mg_none_of X G z_sorted
  have n_str := PySem.W.mg_none_of X G z_str
  have n_tuple := PySem.W.mg_none_of X G z_tuple
  refine ⟨D_law_k52_3.fd, fun s v => .of_eq rfl, fun base _ _ hs => ?_⟩
  have G_beats := ok_beats (P := l.prog) (w := w) (base := base) hs ht D_beats n_len
  have G_rounds_back := ok_rounds_back (P := l.prog) (w := w) (base := base) hs ht D_rounds_back n_any n_len n_range
  have G_ring_from := ok_ring_from (P := l.prog) (w := w) (base := base) hs ht D_ring_from D_rounds_back G_rounds_back n_len n_min n_range n_tuple
  have G_ring_k52 := ok_ring_k52 (P := l.prog) (w := w) (base := base) hs ht D_ring_k52 D_ring_from G_ring_from D_beats G_beats n_len n_range n_sorted
  have G_law_draws := ok_law_draws (P := l.prog) (w := w) (base := base) hs ht D_law_draws n_int n_len n_list n_range
  have G_law_take := ok_law_take (P := l.prog) (w := w) (base := base) hs ht D_law_take n_int n_len
  have G_law_same := ok_law_same (P := l.prog) (w := w) (base := base) hs ht D_law_same n_bool n_int n_isinstance n_len n_range n_str n_tuple 40
  have G_law_die := ok_law_die (P := l.prog) (w := w) (base := base) hs ht D_law_die D_law_take G_law_take n_min n_range n_sorted n_tuple
  have G_law_table := ok_law_table (P := l.prog) (w := w) (base := base) hs ht D_law_table n_int n_len n_range
  have G_law_steps := ok_law_steps (P := l.prog) (w := w) (base := base) hs ht D_law_steps n_int n_len n_min n_range
  have G_law_least_ring := ok_law_least_ring (P := l.prog) (w := w) (base := base) hs ht D_law_least_ring D_law_steps G_law_steps n_len n_min n_range n_tuple
  have G_law_first_ring := ok_law_first_ring (P := l.prog) (w := w) (base := base) hs ht D_law_first_ring n_len n_range
  have G_law_known_k52_2 := ok_law_known_k52_2 (P := l.prog) (w := w) (base := base) hs ht D_law_known_k52_2 D_law_take G_law_take n_sorted n_tuple
  have G_law_dice_k52 := ok_law_dice_k52 (P := l.prog) (w := w) (base := base) hs ht D_law_dice_k52 D_law_take G_law_take D_law_known_k52_2 G_law_known_k52_2 D_law_die G_law_die n_len n_range n_tuple
  have G_law_built := ok_law_built (P := l.prog) (w := w) (base := base) hs ht D_law_built D_law_take G_law_take n_int n_len n_list n_min n_range n_tuple
  have G_law_right_k52_2 := ok_law_right_k52_2 (P := l.prog) (w := w) (base := base) hs ht D_law_right_k52_2 D_law_table G_law_table D_law_least_ring G_law_least_ring D_law_first_ring G_law_first_ring D_law_same G_law_same D_ring_k52 G_ring_k52 n_len
  exact ok_law_k52_3 (P := l.prog) (w := w) (base := base) hs ht D_law_k52_3 D_law_draws G_law_draws D_law_dice_k52 G_law_dice_k52 D_law_right_k52_2 G_law_right_k52_2 D_law_same G_law_same D_law_take G_law_take D_law_built G_law_built D_ring_k52 G_ring_k52 n_len
end Law_k52
open PySem PySem.W PyProof.Rows
set_option maxHeartbeats 0 in
theorem PySem.Challenge.cw_nosurebet_k52_rings_of_dice_holds : PySem.Challenge.rw_nosurebet_k52_rings_of_dice.Holds := by
  w_on; o_law; k_head; (case hw => w_witness2)
  k_fill
  refine Py.walk_py (l := PySem.Challenge.rw_nosurebet_k52_rings_of_dice) (n := 63) (k := 82) (x := "script") (d := D.d_law_k52_3) rfl (by decide) rfl ⟨rfl, by decide, by decide⟩ (by rfl) (fun w h Y => PySem.W.kIn_of Y) ?F Law_k52.holds
  case F =>
    intro w mg fa h KX G hmg
    refine' Law_k52.all_mk rfl KX G hmg ?a0 ?l0 ?c0 ?k0 ?a1 ?l1 ?c1 ?k1 ?a2 ?l2 ?c2 ?k2 ?a3 ?l3 ?c3 ?k3 ?a4 ?l4 ?c4 ?k4 ?a5 ?l5 ?c5 ?k5 ?a6 ?l6 ?c6 ?k6 ?a7 ?l7 ?c7 ?k7 ?a8 ?l8 ?c8 ?k8 ?a9 ?l9 ?c9 ?k9 ?a10 ?l10 ?c10 ?k10 ?a11 ?l11 ?c11 ?k11 ?a12 ?l12 ?c12 ?k12 ?a13 ?l13 ?c13 ?k13 ?a14 ?l14 ?c14 ?k14 ?a15 ?l15 ?c15 ?k15 ?a16 ?l16 ?c16 ?k16 ?z_any ?z_bool ?z_int ?z_isinstance ?z_len ?z_list ?z_min ?z_range ?z_sorted ?z_str ?z_tuple
    (case a0 => k_is); (case l0 => k_is); (case c0 => k_is); (case k0 => k_is); (case a1 => k_is); (case l1 => k_is); (case c1 => k_is); (case k1 => k_is); (case a2 => k_is); (case l2 => k_is); (case c2 => k_is); (case k2 => k_is); (case a3 => k_is); (case l3 => k_is); (case c3 => k_is); (case k3 => k_is); (case a4 => k_is); (case l4 => k_is); (case c4 => k_is); (case k4 => k_is); (case a5 => k_is); (case l5 => k_is); (case c5 => k_is); (case k5 => k_is); (case a6 => k_is); (case l6 => k_is); (case c6 => k_is); (case k6 => k_is); (case a7 => k_is); (case l7 => k_is); (case c7 => k_is); (case k7 => k_is); (case a8 => k_is); (case l8 => k_is); (case c8 => k_is); (case k8 => k_is); (case a9 => k_is); (case l9 => k_is); (case c9 => k_is); (case k9 => k_is); (case a10 => k_is); (case l10 => k_is); (case c10 => k_is); (case k10 => k_is); (case a11 => k_is); (case l11 => k_is); (case c11 => k_is); (case k11 => k_is); (case a12 => k_is); (case l12 => k_is); (case c12 => k_is); (case k12 => k_is); (case a13 => k_is); (case l13 => k_is); (case c13 => k_is); (case k13 => k_is); (case a14 => k_is); (case l14 => k_is); (case c14 => k_is); (case k14 => k_is); (case a15 => k_is); (case l15 => k_is); (case c15 => k_is); (case k15 => k_is); (case a16 => k_is); (case l16 => k_is); (case c16 => k_is); (case k16 => k_is); (case z_any => k_is); (case z_bool => k_is); (case z_int => k_is); (case z_isinstance => k_is); (case z_len => k_is); (case z_list => k_is); (case z_min => k_is); (case z_range => k_is); (case z_sorted => k_is); (case z_str => k_is); (case z_tuple => k_is)
