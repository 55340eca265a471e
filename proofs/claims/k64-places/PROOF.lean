import PyProof.Rows.All
import PyProof.Rows.Walk
import PyProof.EqLayable
import HandS.ForMost
import HandS.EndBits
import HandS.Gcd
import HandS.Wide
import HandS.IsInst
import HandS.TupAny
import HandS.SortInts
import HandS.TupMul
import HandS.TupLe
import HandS.Deep
import HandS.Iter
import HandS.Style
import HandS.Conv
import HandS.Small
import HandS.More
import HandS.Dict
import KE.KSortTupG
import HandS.TupSets
import HandS.SetFor
import HandS.TryOnly
import KE.SortData
import KE.IntBitsLaws
import PySem.Challenge.RW_nosurebet_k64_best_places
set_option Elab.async false
set_option linter.all false
set_option maxRecDepth 100000
set_option maxHeartbeats 2000000
/-! Py0: slots and the meanings of the pieces of a text, without a heap. Values are PyData. -/
namespace Py
open PySem

abbrev PV := PyData
abbrev Key := Sum Int Str

/-- what may be changed -/
inductive Ob where
  | lst (xs : List PV) | dct (kvs : List (Key × PV))
/-- what a name holds: a value, an object of its own, a caller's object -/
inductive Sl where
  | val (v : PV) | own (o : Ob) | ref (o : Ob) | lck (kvs : List (Key × PV))
/-- what an expression gives: a value, a new object, the object of a name -/
inductive R where
  | val (v : PV) | new (o : Ob) | bor (i : Nat)
/-- what a result holds when it is looked at -/
inductive Ct where
  | pv (v : PV) | ob (o : Ob)

abbrev Env := List (Option Sl)
abbrev M := Env → Option (R × Env)
abbrev MT := Env → Option (Bool × Env)
inductive Fl where
  | nx | rt (r : R) | bk | ct
abbrev SM := Env → Option (Fl × Env)
/-- a target, a row of targets -/
abbrev MG := R → Env → Option Env
/-- what a for walks: the items, and the environment while it walks -/
abbrev MI := Env → Option (List PV × Env)
abbrev ML := Env → Option (List PV × Env)

def line : Nat := 16777216

def Ct.lst? : Ct → Option (List PV)
  | .pv (.list xs) => some xs
  | .ob (.lst xs) => some xs
  | _ => none
def Ct.tup? : Ct → Option (List PV)
  | .pv (.tuple xs) => some xs
  | _ => none
def Ct.seq? : Ct → Option (List PV)
  | .pv (.list xs) => some xs
  | .pv (.tuple xs) => some xs
  | .ob (.lst xs) => some xs
  | _ => none
def Sl.ct : Sl → Ct
  | .val v => .pv v
  | .own o => .ob o
  | .ref o => .ob o
  | .lck kvs => .ob (.dct kvs)
def get (ρ : Env) (i : Nat) : Option Sl := (ρ[i]?).getD none
def look : R → Env → Option Ct
  | .val v, _ => some (.pv v)
  | .new o, _ => some (.ob o)
  | .bor i, ρ => (get ρ i).map Sl.ct
/-- made a value that is never changed again -/
def frzO : Ob → Option PV
  | .lst xs => some (.list xs)
  | .dct _ => none
def frz : R → Env → Option (PV × Env)
  | .val v, ρ => some (v, ρ)
  | .new o, ρ => (frzO o).map fun v => (v, ρ)
  | .bor i, ρ => match get ρ i with
    | some (.val v) => some (v, ρ)
    | some (.own o) => (frzO o).map fun v => (v, ρ.set i (some (.val v)))
    | _ => none
def isRef : Option Sl → Bool
  | some (.ref _) => true
  | some (.lck _) => true
  | _ => false
/-- stored at a name that holds no caller's object -/
def put (i : Nat) (s : Option Sl) (ρ : Env) : Option Env := if isRef (get ρ i) then none else some (ρ.set i s)
def forget : List Nat → Env → Env
  | [], ρ => ρ
  | i :: r, ρ => if isRef (get (forget r ρ) i) then forget r ρ else (forget r ρ).set i none

/-! ### expressions -/
def mC (v : PV) : M := fun ρ => some (.val v, ρ)
def mVar (i : Nat) : M := fun ρ => match get ρ i with
  | some (.val v) => some (.val v, ρ)
  | some (.own _) => some (.bor i, ρ)
  | some (.ref _) => some (.bor i, ρ)
  | some (.lck _) => some (.bor i, ρ)
  | none => none
def mOp (f : Ct → Ct → Option R) (a b : M) : M := fun ρ =>
  (a ρ).bind fun x => (b x.2).bind fun y => (look x.1 y.2).bind fun cx => (look y.1 y.2).bind fun cy => (f cx cy).map fun z => (z, y.2)
def mUn (f : Ct → Option R) (a : M) : M := fun ρ =>
  (a ρ).bind fun x => (look x.1 x.2).bind fun cx => (f cx).map fun z => (z, x.2)
def boolOf : Ct → Option Bool
  | .pv (.bool b) => some b
  | _ => none
/-- a test by its value, a bool -/
def mB (a : M) : MT := fun ρ => (a ρ).bind fun x => (look x.1 x.2).bind fun cx => (boolOf cx).map fun b => (b, x.2)
def truOf : Ct → Option Bool
  | .pv .none => some false
  | .pv (.bool b) => some b
  | .pv (.int i) => some (i != 0)
  | .pv (.tuple xs) => some !xs.isEmpty
  | .pv (.list xs) => some !xs.isEmpty
  | .ob (.lst xs) => some !xs.isEmpty
  | _ => none
/-- a test by its value's truth -/
def mTru (a : M) : MT := fun ρ => (a ρ).bind fun x => (look x.1 x.2).bind fun cx => (truOf cx).map fun b => (b, x.2)
def mAnd (a b : MT) : MT := fun ρ => (a ρ).bind fun x => if x.1 then b x.2 else some (false, x.2)
def mOr (a b : MT) : MT := fun ρ => (a ρ).bind fun x => if x.1 then some (true, x.2) else b x.2
def mNot (a : MT) : MT := fun ρ => (a ρ).bind fun x => some (!x.1, x.2)
/-- and, or, not as values (of bools) -/
def mAndV (a b : M) : M := fun ρ => (a ρ).bind fun x => (look x.1 x.2).bind fun cx => (boolOf cx).bind fun k => if k then b x.2 else some (.val (.bool false), x.2)
def mOrV (a b : M) : M := fun ρ => (a ρ).bind fun x => (look x.1 x.2).bind fun cx => (boolOf cx).bind fun k => if k then some (.val (.bool true), x.2) else b x.2
def mNotV (a : M) : M := fun ρ => (a ρ).bind fun x => (look x.1 x.2).bind fun cx => (boolOf cx).bind fun k => some (.val (.bool (!k)), x.2)
def mIfE (t : MT) (a b : M) : M := fun ρ => (t ρ).bind fun x => if x.1 then a x.2 else b x.2
/-- a op b op' c, of values -/
def mChain (f g : Ct → Ct → Option R) (a b c : M) : M := fun ρ =>
  (a ρ).bind fun x => (b x.2).bind fun y => (look x.1 y.2).bind fun cx => (look y.1 y.2).bind fun cy => (f cx cy).bind fun z => (look z y.2).bind fun cz => (boolOf cz).bind fun k =>
    if k then (c y.2).bind fun w => (look y.1 w.2).bind fun cy => (look w.1 w.2).bind fun cw => (g cy cw).map fun z => (z, w.2) else some (.val (.bool false), y.2)
/-- a name's list given away as a value -/
def mFrz (a : M) : M := fun ρ => (a ρ).bind fun x => (frz x.1 x.2).map fun v => (.val v.1, v.2)
def lNil : ML := fun ρ => some ([], ρ)
def lCons (a : M) (r : ML) : ML := fun ρ => (a ρ).bind fun x => (frz x.1 x.2).bind fun v => (r v.2).map fun vs => (v.1 :: vs.1, vs.2)
def mTup (l : ML) : M := fun ρ => (l ρ).bind fun vs => if vs.1.length ≤ line then some (.val (.tuple vs.1), vs.2) else none
def mLst (l : ML) : M := fun ρ => (l ρ).bind fun vs => if vs.1.length ≤ line then some (.new (.lst vs.1), vs.2) else none
def mDct0 : M := fun ρ => some (.new (.dct []), ρ)

/-! ### operators by content -/
def fAdd : Ct → Ct → Option R
  | .pv (.int a), .pv (.int b) => some (.val (.int (a + b)))
  | .pv (.str a), .pv (.str b) => if a.length + b.length ≤ line then some (.val (.str (a ++ b))) else none
  | .pv (.tuple xs), .pv (.tuple ys) => if xs.length + ys.length ≤ line then some (.val (.tuple (xs ++ ys))) else none
  | .ob (.lst xs), .ob (.lst ys) => if xs.length + ys.length ≤ line then some (.new (.lst (xs ++ ys))) else none
  | _, _ => none
def fSub : Ct → Ct → Option R
  | .pv (.int a), .pv (.int b) => some (.val (.int (a - b)))
  | _, _ => none
/-- the bits of both factors together within the line -/
def mulOk (a b : Int) : Bool := decide (a.natAbs.log2 + b.natAbs.log2 < 100000000)
def fMul : Ct → Ct → Option R
  | .pv (.int a), .pv (.int b) => if mulOk a b then some (.val (.int (a * b))) else none
  | .pv (.tuple xs), .pv (.int k) => if -(2 ^ 62) < k ∧ k ≤ 1000 ∧ xs.length ≤ 1000 then some (.val (.tuple (List.replicate k.toNat xs).flatten)) else none
  | .ob (.lst xs), .pv (.int k) => if xs.length * k.toNat ≤ line ∧ k < 2 ^ 62 ∧ -(2 ^ 62) < k then some (.new (.lst (List.replicate k.toNat xs).flatten)) else none
  | _, _ => none
def fDiv : Ct → Ct → Option R
  | .pv (.int a), .pv (.int b) => if b = 0 then none else some (.val (.int (a.fdiv b)))
  | _, _ => none
def fMod : Ct → Ct → Option R
  | .pv (.int a), .pv (.int b) => if b = 0 then none else some (.val (.int (a.fmod b)))
  | _, _ => none
def fPow : Ct → Ct → Option R
  | .pv (.int a), .pv (.int b) => if 0 ≤ b ∧ b ≤ 1000000 ∧ a.natAbs < 2 ^ 64 then some (.val (.int (a ^ b.toNat))) else none
  | _, _ => none
def fNeg : Ct → Option R
  | .pv (.int a) => some (.val (.int (-a)))
  | _ => none
def cI (p : Int → Int → Bool) : Ct → Ct → Option R
  | .pv (.int a), .pv (.int b) => some (.val (.bool (p a b)))
  | _, _ => none
def fLt := cI fun a b => decide (a < b)
def fLe := cI fun a b => decide (a ≤ b)
def fGt := cI fun a b => decide (b < a)
def fGe := cI fun a b => decide (b ≤ a)
def eqD (neg : Bool) : Ct → Ct → Option R
  | .pv (.int a), .pv (.int b) => some (.val (.bool (neg ^^ decide (a = b))))
  | .pv (.bool a), .pv (.bool b) => some (.val (.bool (neg ^^ (a == b))))
  | .pv (.str a), .pv (.str b) => some (.val (.bool (neg ^^ decide (a = b))))
  | .pv d, .pv e => if SeqAt.shaped d = true ∧ SeqAt.shaped e = true then some (.val (.bool (neg ^^ PyData.eqv d e))) else none
  | _, _ => none
def fEq := eqD false
def fNe := eqD true
def isNone : PV → Bool
  | .none => true
  | _ => false
/-- is None (the right side None) -/
def fIs (neg : Bool) : Ct → Ct → Option R
  | .pv v, .pv .none => some (.val (.bool (neg ^^ isNone v)))
  | .ob _, .pv .none => some (.val (.bool neg))
  | _, _ => none
/-- the place of an index -/
def ixN (n : Nat) (i : Int) : Option Nat := if 0 ≤ i then (if i < n then some i.toNat else none) else if -(n : Int) ≤ i then some (i + n).toNat else none
def atI (xs : List PV) (i : Int) : Option PV := (ixN xs.length i).bind fun j => xs[j]?
def keyOf : PV → Option Key
  | .int i => some (.inl i)
  | .str x => some (.inr x)
  | _ => none
def dGet (kvs : List (Key × PV)) (k : Key) : Option PV := (kvs.find? fun kv => decide (kv.1 = k)).map (·.2)
def dPut (kvs : List (Key × PV)) (k : Key) (v : PV) : List (Key × PV) :=
  if (kvs.find? fun kv => decide (kv.1 = k)).isSome then kvs.map fun kv => if kv.1 = k then (k, v) else kv else kvs ++ [(k, v)]
def fIx : Ct → Ct → Option R
  | .pv (.tuple xs), .pv (.int i) => (atI xs i).map .val
  | .pv (.list xs), .pv (.int i) => (atI xs i).map .val
  | .ob (.lst xs), .pv (.int i) => (atI xs i).map .val
  | .pv (.str x), .pv (.int i) => if x.length ≤ line then ((ixN x.length i).bind fun j => x.cps[j]?).map fun c => .val (.str ⟨#[c]⟩) else none
  | _, _ => none
/-! slices -/
def sIx (n d : Nat) : Option Int → Nat
  | none => d
  | some i => if i < 0 then (i + n).toNat else min i.toNat n
def cut {α : Type} (xs : List α) (lo hi : Option Int) : List α := (xs.drop (sIx xs.length 0 lo)).take (sIx xs.length xs.length hi - sIx xs.length 0 lo)
abbrev MO := Env → Option (Option Int × Env)
def oNone : MO := fun ρ => some (none, ρ)
def intOf : Ct → Option Int
  | .pv (.int i) => some i
  | _ => none
def oSome (a : M) : MO := fun ρ => (a ρ).bind fun x => (look x.1 x.2).bind fun c => (intOf c).map fun i => (some i, x.2)
def fSl (lo hi : Option Int) : Ct → Option R
  | .pv (.tuple xs) => some (.val (.tuple (cut xs lo hi)))
  | .pv (.list xs) => some (.new (.lst (cut xs lo hi)))
  | .ob (.lst xs) => some (.new (.lst (cut xs lo hi)))
  | _ => none
def mSl (a : M) (l h : MO) : M := fun ρ => (a ρ).bind fun x => (l x.2).bind fun i => (h i.2).bind fun j => (look x.1 j.2).bind fun c => (fSl i.1 j.1 c).map fun z => (z, j.2)

/-! ### built-ins by content -/
def fLen : Ct → Option R
  | .pv (.tuple xs) => some (.val (.int xs.length))
  | .pv (.list xs) => some (.val (.int xs.length))
  | .pv (.str x) => if x.length ≤ line then some (.val (.int x.length)) else none
  | .ob (.lst xs) => some (.val (.int xs.length))
  | _ => none
def fInt : Ct → Option R
  | .pv (.int i) => some (.val (.int i))
  | .pv (.bool b) => some (.val (.int (if b then 1 else 0)))
  | _ => none
def fAbs : Ct → Option R
  | .pv (.int i) => some (.val (.int i.natAbs))
  | _ => none
def fMin2 : Ct → Ct → Option R
  | .pv (.int i), .pv (.int j) => some (.val (.int (if j < i then j else i)))
  | _, _ => none
def fMax2 : Ct → Ct → Option R
  | .pv (.int i), .pv (.int j) => some (.val (.int (if j > i then j else i)))
  | _, _ => none
def fGcd : Ct → Ct → Option R
  | .pv (.int i), .pv (.int j) => some (.val (.int (Int.gcd i j)))
  | _, _ => none
def fTuple : Ct → Option R
  | .pv (.tuple xs) => some (.val (.tuple xs))
  | .pv (.list xs) => some (.val (.tuple xs))
  | .ob (.lst xs) => some (.val (.tuple xs))
  | _ => none
def fList : Ct → Option R
  | .pv (.tuple xs) => some (.new (.lst xs))
  | .pv (.list xs) => some (.new (.lst xs))
  | .ob (.lst xs) => some (.new (.lst xs))
  | _ => none
def intV? : PV → Option Int
  | .int i => some i
  | _ => none
def boolV? : PV → Option Bool
  | .bool b => some b
  | _ => none
def ints? (xs : List PV) : Option (List Int) := xs.mapM intV?
def bools? (xs : List PV) : Option (List Bool) := xs.mapM boolV?
def fSum (c : Ct) : Option R := c.lst?.bind fun xs => (ints? xs).map fun ns => .val (.int ns.sum)
def fAll (c : Ct) : Option R := c.lst?.bind fun xs => (bools? xs).map fun bs => .val (.bool (bs.all id))
def fAny (c : Ct) : Option R := c.lst?.bind fun xs => (bools? xs).map fun bs => .val (.bool (bs.any id))
def maxL : List Int → Int
  | [] => 0
  | x :: r => r.foldl max x
def minL : List Int → Int
  | [] => 0
  | x :: r => r.foldl min x
def fMax (c : Ct) : Option R := c.lst?.bind fun xs => (ints? xs).bind fun ns => if ns = [] then none else some (.val (.int (maxL ns)))
def fMin (c : Ct) : Option R := c.lst?.bind fun xs => (ints? xs).bind fun ns => if ns = [] then none else some (.val (.int (minL ns)))
def isort (ns : List Int) : List Int := ns.mergeSort fun a b => decide (a ≤ b)
def fSorted (c : Ct) : Option R := c.lst?.bind fun xs => (ints? xs).map fun ns => .new (.lst ((isort ns).map .int))
/-- += of ints and texts -/
def fIAdd : Ct → Ct → Option R
  | .pv (.int a), .pv (.int b) => some (.val (.int (a + b)))
  | .pv (.str a), .pv (.str b) => if a.length + b.length ≤ line then some (.val (.str (a ++ b))) else none
  | _, _ => none
def fMulI : Ct → Ct → Option R
  | .pv (.int a), .pv (.int b) => if mulOk a b then some (.val (.int (a * b))) else none
  | _, _ => none
/-- the types that isinstance is asked of -/
inductive Ty where
  | bool | int | str | tuple
def isTy : Ty → PV → Bool
  | .bool, .bool _ => true
  | .int, .int _ => true
  | .int, .bool _ => true
  | .str, .str _ => true
  | .tuple, .tuple _ => true
  | _, _ => false
def fIsi (t : Ty) : Ct → Option R
  | .pv v => some (.val (.bool (isTy t v)))
  | .ob (.lst _) => some (.val (.bool false))
  | .ob (.dct _) => none

/-! ### statements -/
def sNext : SM := fun ρ => some (.nx, ρ)
def sSeq (a b : SM) : SM := fun ρ => (a ρ).bind fun x => match x.1 with
  | .nx => b x.2
  | f => some (f, x.2)
def sBrk : SM := fun ρ => some (.bk, ρ)
def sCont : SM := fun ρ => some (.ct, ρ)
def sRet (a : M) : SM := fun ρ => (a ρ).map fun x => (.rt x.1, x.2)
def sRetN : SM := fun ρ => some (.rt (.val .none), ρ)
def sIf (t : MT) (a b : SM) : SM := fun ρ => (t ρ).bind fun x => if x.1 then a x.2 else b x.2
def sExpr (a : M) : SM := fun ρ => (a ρ).map fun x => (.nx, x.2)
/-- what a name holds behind a store: a list of another name becomes a value of both -/
def gName (i : Nat) : MG := fun r ρ => match r with
  | .val v => put i (some (.val v)) ρ
  | .new o => put i (some (.own o)) ρ
  | .bor j => (frz (.bor j) ρ).bind fun v => put i (some (.val v.1)) v.2
def gNames : List Nat → List PV → Env → Option Env
  | [], [], ρ => some ρ
  | i :: is, v :: vs, ρ => (put i (some (.val v)) ρ).bind fun ρ1 => gNames is vs ρ1
  | _, _, _ => none
/-- a, b = t (a tuple) -/
def gTup (is : List Nat) : MG := fun r ρ => match r with
  | .val (.tuple xs) => gNames is xs ρ
  | _ => none
def sAsg (a : M) (g : MG) : SM := fun ρ => (a ρ).bind fun x => (g x.1 x.2).map fun ρ' => (.nx, ρ')
def sPar (i j : Nat) (a b : M) : SM := fun ρ => (a ρ).bind fun x => (frz x.1 x.2).bind fun v => (b v.2).bind fun y => (frz y.1 y.2).bind fun w =>
  (put i (some (.val v.1)) w.2).bind fun ρ1 => (put j (some (.val w.1)) ρ1).map fun ρ2 => (.nx, ρ2)
/-- an object of a name -/
def obAt (ρ : Env) (i : Nat) : Option Ob := match get ρ i with
  | some (.own o) => some o
  | some (.ref o) => some o
  | _ => none
def lstAt (ρ : Env) (i : Nat) : Option (List PV) := match obAt ρ i with
  | some (.lst xs) => some xs
  | _ => none
def setOb (ρ : Env) (i : Nat) (o : Ob) : Env := match get ρ i with
  | some (.ref _) => ρ.set i (some (.ref o))
  | some (.lck _) => ρ.set i (some (.ref o))
  | _ => ρ.set i (some (.own o))
/-- xs.append(e) -/
def mAppend (i : Nat) (a : M) : M := fun ρ => (lstAt ρ i).bind fun _ => (a ρ).bind fun x => (frz x.1 x.2).bind fun v => (lstAt v.2 i).bind fun xs =>
  if xs.length < line then some (.val .none, setOb v.2 i (.lst (xs ++ [v.1]))) else none
/-- xs.pop() -/
def mPop (i : Nat) : M := fun ρ => (lstAt ρ i).bind fun xs => (xs.getLast?).map fun v => (.val v, setOb ρ i (.lst xs.dropLast))
/-- xs.pop(e) -/
def mPopAt (i : Nat) (a : M) : M := fun ρ => (lstAt ρ i).bind fun _ => (a ρ).bind fun x => (look x.1 x.2).bind fun c => (intOf c).bind fun k => (lstAt x.2 i).bind fun xs =>
  if -(2 ^ 62) < k ∧ k < 2 ^ 62 then (ixN xs.length k).bind fun j => (xs[j]?).map fun v => (.val v, setOb x.2 i (.lst (xs.eraseIdx j))) else none
/-- xs.reverse() -/
def mReverse (i : Nat) : M := fun ρ => (lstAt ρ i).map fun xs => (.val .none, setOb ρ i (.lst xs.reverse))
/-- xs[e] = v -/
def sSetIx (i : Nat) (e : M) (a : M) : SM := fun ρ => (a ρ).bind fun x => (frz x.1 x.2).bind fun v => (lstAt v.2 i).bind fun _ => (e v.2).bind fun y => (look y.1 y.2).bind fun c => (intOf c).bind fun k => (lstAt y.2 i).bind fun xs =>
  (ixN xs.length k).map fun j => (.nx, setOb y.2 i (.lst (xs.set j v.1)))
/-- name op= e, of values -/
def sAug (i : Nat) (f : Ct → Ct → Option R) (a : M) : SM := fun ρ => (get ρ i).bind fun s => match s with
  | .val v => (a ρ).bind fun x => (look x.1 x.2).bind fun c => (f (.pv v) c).bind fun z => match z with
    | .val w => (put i (some (.val w)) x.2).map fun ρ' => (.nx, ρ')
    | _ => none
  | _ => none
/-- xs += e, a list -/
def sAugL (i : Nat) (a : M) : SM := fun ρ => (lstAt ρ i).bind fun _ => (a ρ).bind fun x => match x.1 with
  | .new (.lst ys) => (lstAt x.2 i).bind fun xs => if xs.length + ys.length ≤ line then some (.nx, setOb x.2 i (.lst (xs ++ ys))) else none
  | _ => none

/-! ### loops -/
def iSeq (a : M) : MI := fun ρ => (a ρ).bind fun x => match x.1 with
  | .val (.list xs) => some (xs, x.2)
  | .val (.tuple xs) => some (xs, x.2)
  | .new (.lst xs) => some (xs, x.2)
  | _ => none
/-- a name's own list, which the body doesn't see -/
def iHide (i : Nat) : MI := fun ρ => (lstAt ρ i).map fun xs => (xs, ρ.set i none)
def rangeL (lo : Int) (n : Nat) : List PV := (List.range n).map fun (k : Nat) => .int (lo + (k : Int))
def iRng1 (a : M) : MI := fun ρ => (a ρ).bind fun x => (look x.1 x.2).bind fun c => (intOf c).bind fun n => if n ≤ line ∧ -(2 ^ 62) ≤ n then some (rangeL 0 n.toNat, x.2) else none
def iRng2 (a b : M) : MI := fun ρ => (a ρ).bind fun x => (look x.1 x.2).bind fun c => (intOf c).bind fun lo => (b x.2).bind fun y => (look y.1 y.2).bind fun d => (intOf d).bind fun hi =>
  if -(2 ^ 61) ≤ lo ∧ lo < 2 ^ 61 ∧ -(2 ^ 61) ≤ hi ∧ hi < 2 ^ 61 ∧ (hi - lo) ≤ line then some (rangeL lo (hi - lo).toNat, y.2) else none
def loopF (g : MG) (b : SM) : List PV → SM
  | [], ρ => some (.nx, ρ)
  | x :: xs, ρ => (g (.val x) ρ).bind fun ρ1 => (b ρ1).bind fun y => match y.1 with
    | .nx => loopF g b xs y.2
    | .ct => loopF g b xs y.2
    | .bk => some (.nx, y.2)
    | .rt r => some (.rt r, y.2)
def sFor (it : MI) (g : MG) (b : SM) : SM := fun ρ => (it ρ).bind fun xs => loopF g b xs.1 xs.2
/-- for over a name's own list: the name holds it again behind the loop -/
def sForH (i : Nat) (g : MG) (b : SM) : SM := fun ρ => (get ρ i).bind fun s => (iHide i ρ).bind fun xs => (loopF g b xs.1 xs.2).bind fun y => match get y.2 i with
  | none => some (y.1, y.2.set i (some s))
  | _ => none
def whileF (t : MT) (b : SM) : Nat → SM
  | 0, _ => none
  | n + 1, ρ => (t ρ).bind fun x => if x.1 then (b x.2).bind fun y => match y.1 with
      | .nx => whileF t b n y.2
      | .ct => whileF t b n y.2
      | .bk => some (.nx, y.2)
      | .rt r => some (.rt r, y.2)
    else some (.nx, x.2)
open Classical in
noncomputable def sWhile (t : MT) (b : SM) : SM := fun ρ => if h : ∃ n, (whileF t b n ρ).isSome = true then whileF t b h.choose ρ else none
/-- names that are not read any more -/
def sFgt (is : List Nat) (a : SM) : SM := fun ρ => (a ρ).map fun x => match x.1 with
  | .rt r => (.rt r, x.2)
  | f => (f, forget is x.2)

/-! ### comprehensions -/
def wipe (ρ : Env) : List Nat → Env
  | [] => ρ
  | i :: r => (wipe ρ r).set i none
def back (ρ0 : Env) : List Nat → Env → Env
  | [], ρ => ρ
  | i :: r, ρ => (back ρ0 r ρ).set i (get ρ0 i)
def lcF (f : PV → Env → Option (List PV × Env)) : List PV → Env → Option (List PV × Env)
  | [], ρ => some ([], ρ)
  | x :: xs, ρ => (f x ρ).bind fun y => (lcF f xs y.2).map fun z => (y.1 ++ z.1, z.2)
def tYes : MT := fun ρ => some (true, ρ)
def lcTurn (g : MG) (vs : List Nat) (t : MT) (e : M) (x : PV) (ρ : Env) : Option (List PV × Env) :=
  (g (.val x) (wipe ρ vs)).bind fun ρ1 => (t ρ1).bind fun b => if b.1 then (e b.2).bind fun r => (frz r.1 r.2).map fun v => ([v.1], v.2) else some ([], b.2)
def mLc (it : MI) (g : MG) (vs : List Nat) (t : MT) (e : M) : M := fun ρ => (it ρ).bind fun xs => if xs.1.length ≤ line then
  (lcF (lcTurn g vs t e) xs.1 xs.2).map fun y => (.new (.lst y.1), back xs.2 vs y.2) else none

/-! ### defs -/
abbrev Den := List Sl → Option (R × List Ob)
def leave : R → Env → Option R
  | .val v, _ => some (.val v)
  | .new o, _ => some (.new o)
  | .bor i, ρ => match get ρ i with
    | some (.val v) => some (.val v)
    | some (.own o) => some (.new o)
    | _ => none
/-- the callers' objects behind the call -/
def outs : List Sl → Env → Option (List Ob)
  | [], _ => some []
  | .ref _ :: as, some (.ref o) :: ρ => (outs as ρ).map (o :: ·)
  | .ref _ :: _, _ => none
  | .val _ :: as, _ :: ρ => outs as ρ
  | _, _ => none
def startE (n : Nat) (as : List Sl) : Env := as.map some ++ List.replicate (n - as.length) none
def mkDen (n : Nat) (body : SM) : Den := fun as => (body (startE n as)).bind fun x => match x.1 with
  | .nx => (outs as x.2).map fun os => (.val .none, os)
  | .rt r => (leave r x.2).bind fun r' => (outs as x.2).map fun os => (r', os)
  | _ => none
/-- an argument: a value, or a name's object handed on -/
inductive Ag where
  | v (a : M) | r (i : Nat)
def agsEval : List Ag → Env → Option (List Sl × Env)
  | [], ρ => some ([], ρ)
  | .v a :: r, ρ => (a ρ).bind fun x => (frz x.1 x.2).bind fun v => (agsEval r v.2).map fun z => (.val v.1 :: z.1, z.2)
  | .r i :: r, ρ => (obAt ρ i).bind fun _ => (agsEval r ρ).bind fun z => (obAt z.2 i).map fun o => (.ref o :: z.1, z.2)
def refsOf : List Ag → List Nat
  | [] => []
  | .v _ :: r => refsOf r
  | .r i :: r => i :: refsOf r
def setObs : List Nat → List Ob → Env → Env
  | i :: is, o :: os, ρ => setObs is os (setOb ρ i o)
  | _, _, ρ => ρ
def mCall (d : Den) (as : List Ag) : M := fun ρ => (agsEval as ρ).bind fun z => if (refsOf as).Nodup then (d z.1).map fun y => (y.1, setObs (refsOf as) y.2 z.2) else none
end Py
/-! Py1: what binds the meanings of Py0 to the readings of the hand layer. -/
namespace Py
open PySem PySem.Spec PyProof.Rows L2

abbrev Ex (H H' : Hp) : Prop := ∀ a o, H a = some o → H' a = some o
theorem ex_rd {H H' : Hp} {a : Addr} {u : HO} (e : Ex H H') (h : Rd H a u) : Rd H' a u := by
  rcases h with h | ⟨o, h⟩
  · exact .inl (e a _ h)
  · exact .inr ⟨o, e a _ h⟩
theorem ex_l {K : PySem.W.Frag} {H H' : Hp} {a : Addr} {xs : List V} (e : Ex H H') (h : SqL K H a xs) : SqL K H' a xs := by
  rcases h with h | h
  · exact .inl (ex_rd e h)
  · exact .inr h
theorem ex_t {K : PySem.W.Frag} {H H' : Hp} {a : Addr} {xs : List V} (e : Ex H H') (h : SqT K H a xs) : SqT K H' a xs := by
  rcases h with h | h
  · exact .inl (ex_rd e h)
  · exact .inr h
mutual
theorem dp_mono {K : PySem.W.Frag} {H H' : Hp} (e : Ex H H') : ∀ (d : PyData) (v : V), Dp K H v d → Dp K H' v d
  | .none, _, h => by cases h; exact .non
  | .bool b, _, h => by cases h; exact .bl b
  | .int i, _, h => by cases h; exact .int i
  | .str x, _, h => by cases h; exact .str x
  | .list ds, _, h => by
    cases h with
    | lst hs ha => exact .lst (ex_l e hs) (dps_mono e ds _ ha)
  | .tuple ds, _, h => by
    cases h with
    | tup hs ha => exact .tup (ex_t e hs) (dps_mono e ds _ ha)
  | .dict _, _, h => by cases h
theorem dps_mono {K : PySem.W.Frag} {H H' : Hp} (e : Ex H H') : ∀ (ds : List PyData) (vs : List V), DpAll K H vs ds → DpAll K H' vs ds
  | [], _, h => by cases h; exact .nil
  | d :: ds, _, h => by
    cases h with
    | cons h1 h2 => exact .cons (dp_mono e d _ h1) (dps_mono e ds _ h2)
end
section
variable {K : PySem.W.Frag} {H H' : Hp}
theorem dps_len : ∀ {vs : List V} {ds : List PyData}, DpAll K H vs ds → vs.length = ds.length
  | _, _, .nil => rfl
  | _, _, .cons _ t => by simp [dps_len t]
theorem dps_get : ∀ {vs : List V} {ds : List PyData} {i : Nat} {d : PyData}, DpAll K H vs ds → ds[i]? = some d → ∃ v, vs[i]? = some v ∧ Dp K H v d
  | _, _, _, _, .nil, e => by simp at e
  | _, _, 0, _, .cons r _, e => by simp at e; subst e; exact ⟨_, rfl, r⟩
  | _, _, i + 1, d, .cons _ t, e => by
    obtain ⟨v, h1, h2⟩ := dps_get (i := i) (d := d) t (by simpa using e)
    exact ⟨v, by simpa using h1, h2⟩
theorem dps_app : ∀ {vs ws : List V} {ds es : List PyData}, DpAll K H vs ds → DpAll K H ws es → DpAll K H (vs ++ ws) (ds ++ es)
  | _, _, _, _, .nil, s => s
  | _, _, _, _, .cons r t, s => .cons r (dps_app t s)
theorem dps_take : ∀ {vs : List V} {ds : List PyData} (n : Nat), DpAll K H vs ds → DpAll K H (vs.take n) (ds.take n)
  | _, _, 0, _ => .nil
  | _, _, _ + 1, .nil => .nil
  | _, _, n + 1, .cons r t => .cons r (dps_take n t)
theorem dps_drop : ∀ {vs : List V} {ds : List PyData} (n : Nat), DpAll K H vs ds → DpAll K H (vs.drop n) (ds.drop n)
  | _, _, 0, r => r
  | _, _, _ + 1, .nil => .nil
  | _, _, n + 1, .cons _ t => dps_drop n t
theorem dps_set {v : V} {d : PyData} (r : Dp K H v d) : ∀ {vs : List V} {ds : List PyData} (i : Nat), DpAll K H vs ds → DpAll K H (vs.set i v) (ds.set i d)
  | _, _, _, .nil => .nil
  | _, _, 0, .cons _ t => .cons r t
  | _, _, i + 1, .cons q t => .cons q (dps_set r i t)
theorem dps_rev : ∀ {vs : List V} {ds : List PyData}, DpAll K H vs ds → DpAll K H vs.reverse ds.reverse
  | _, _, .nil => .nil
  | _, _, .cons r t => by
    rw [List.reverse_cons, List.reverse_cons]
    exact dps_app (dps_rev t) (.cons r .nil)
theorem dps_dropLast {vs : List V} {ds : List PyData} (h : DpAll K H vs ds) : DpAll K H vs.dropLast ds.dropLast := by
  rw [List.dropLast_eq_take, List.dropLast_eq_take, dps_len h]
  exact dps_take _ h
theorem dps_rep {vs : List V} {ds : List PyData} (h : DpAll K H vs ds) : ∀ k : Nat, DpAll K H (List.replicate k vs).flatten (List.replicate k ds).flatten
  | 0 => .nil
  | k + 1 => by
    rw [List.replicate_succ, List.replicate_succ, List.flatten_cons, List.flatten_cons]
    exact dps_app h (dps_rep h k)
end
/-- a dict's pairs -/
inductive KvAll (K : PySem.W.Frag) (H : Hp) : List (Key × V) → List (Key × PV) → Prop
  | nil : KvAll K H [] []
  | cons {k : Key} {v : V} {d : PV} {ws : List (Key × V)} {kvs : List (Key × PV)} : Dp K H v d → KvAll K H ws kvs → KvAll K H ((k, v) :: ws) ((k, d) :: kvs)
theorem kvs_mono {K : PySem.W.Frag} {H H' : Hp} (e : Ex H H') : ∀ {ws : List (Key × V)} {kvs : List (Key × PV)}, KvAll K H ws kvs → KvAll K H' ws kvs
  | _, _, .nil => .nil
  | _, _, .cons r t => .cons (dp_mono e _ _ r) (kvs_mono e t)

/-! ### what a slot stands for -/
def slot (σ : L2.St) (i : Nat) : Option V := (σ[i]?).getD none
def RepOb (K : PySem.W.Frag) (Hf H : Hp) (p : Addr) : Ob → Prop
  | .lst xs => ∃ vs, H p = some (.lst vs) ∧ DpAll K Hf vs xs
  | .dct kvs => ∃ ws, H p = some (.dK ws) ∧ KvAll K Hf ws kvs
def RepSl (K : PySem.W.Frag) (Hf H : Hp) : Sl → V → Prop
  | .val v, u => Dp K Hf u v
  | .own o, u => ∃ p, u = .ref p ∧ Hf p = none ∧ RepOb K Hf H p o
  | .ref o, u => ∃ p, u = .ref p ∧ Hf p = none ∧ RepOb K Hf H p o
  | .lck kvs, u => ∃ p, u = .ref p ∧ ∃ ws od, Hf p = some (.frz od (.dK ws)) ∧ KvAll K Hf ws kvs
def isOb : Option Sl → Bool
  | some (.own _) => true
  | some (.ref _) => true
  | _ => false
def OwnAt (ρ : Env) (σ : L2.St) (i : Nat) (p : Addr) : Prop := isOb (get ρ i) = true ∧ slot σ i = some (.ref p)
def Own (ρ : Env) (σ : L2.St) (p : Addr) : Prop := ∃ i, OwnAt ρ σ i p
structure RepE (K : PySem.W.Frag) (Hf H : Hp) (ρ : Env) (σ : L2.St) : Prop where
  len : ρ.length = σ.length
  ff : Ex Hf H
  sl : ∀ i s, get ρ i = some s → ∃ u, slot σ i = some u ∧ RepSl K Hf H s u
  dis : ∀ i j p, OwnAt ρ σ i p → OwnAt ρ σ j p → i = j
structure Step (O : Addr → Prop) (Hf H Hf' H' : Hp) : Prop where
  ff : Ex Hf Hf'
  fh : Ex Hf' H'
  keep : ∀ a o, H a = some o → ¬ O a → H' a = some o
  nof : ∀ a o, H a = some o → ¬ O a → Hf' a = Hf a
  dom : ∀ a o, H a = some o → ∃ o', H' a = some o'
/-- what is read of an object: a dict may be locked -/
def RepCo (K : PySem.W.Frag) (Hf H : Hp) (p : Addr) : Ob → Prop
  | .lst xs => ∃ vs, H p = some (.lst vs) ∧ DpAll K Hf vs xs
  | .dct kvs => ∃ ws, Rd H p (.dK ws) ∧ KvAll K Hf ws kvs
theorem RepOb.co {K : PySem.W.Frag} {Hf H : Hp} {p : Addr} {o : Ob} (h : RepOb K Hf H p o) : RepCo K Hf H p o := by
  cases o with
  | lst xs => exact h
  | dct kvs => obtain ⟨ws, a, b⟩ := h; exact ⟨ws, .inl a, b⟩
def RepC (K : PySem.W.Frag) (Hf H : Hp) : Ct → V → Prop
  | .pv v, u => Dp K Hf u v
  | .ob o, u => ∃ p, u = .ref p ∧ RepCo K Hf H p o
/-- H0: the heap in which a new object was not there -/
def RepR (K : PySem.W.Frag) (Hf H H0 : Hp) (σ : L2.St) : R → V → Prop
  | .val v, u => Dp K Hf u v
  | .new o, u => ∃ p, u = .ref p ∧ H0 p = none ∧ Hf p = none ∧ RepOb K Hf H p o
  | .bor i, u => slot σ i = some u
/-- what an expression may do to the names -/
structure Kp (ρ ρ' : Env) : Prop where
  own : ∀ i, isOb (get ρ' i) = true → isOb (get ρ i) = true
  ref : ∀ i, isRef (get ρ' i) = isRef (get ρ i)

section
variable {K : PySem.W.Frag} {Hf H Hf' H' Hf1 H1 Hf2 H2 H0 : Hp} {ρ ρ' ρ1 ρ2 : Env} {σ σ' : L2.St} {O O' O1 : Addr → Prop}

theorem get_set (ρ : Env) (i j : Nat) (s : Option Sl) : get (ρ.set i s) j = if i = j ∧ i < ρ.length then s else get ρ j := by
  unfold get
  by_cases h : i = j
  · subst h
    by_cases hl : i < ρ.length
    · rw [if_pos ⟨rfl, hl⟩, List.getElem?_set_self hl]; rfl
    · rw [if_neg (fun z => hl z.2), List.getElem?_eq_none (by simpa using hl), List.getElem?_eq_none (by simpa using hl)]
  · rw [if_neg (fun z => h z.1), List.getElem?_set_ne h]
theorem slot_set (σ : L2.St) (i j : Nat) (s : Option V) : slot (σ.set i s) j = if i = j ∧ i < σ.length then s else slot σ j := by
  unfold slot
  by_cases h : i = j
  · subst h
    by_cases hl : i < σ.length
    · rw [if_pos ⟨rfl, hl⟩, List.getElem?_set_self hl]; rfl
    · rw [if_neg (fun z => hl z.2), List.getElem?_eq_none (by simpa using hl), List.getElem?_eq_none (by simpa using hl)]
  · rw [if_neg (fun z => h z.1), List.getElem?_set_ne h]
theorem slot_at {i : Nat} {u : V} (h : slot σ i = some u) : σ[i]? = some (some u) := by
  unfold slot at h
  cases q : σ[i]? with
  | none => rw [q] at h; cases h
  | some x => rw [q] at h; exact congrArg some h

theorem Step.refl (e : Ex Hf H) : Step O Hf H Hf H := ⟨fun _ _ h => h, e, fun _ _ h _ => h, fun _ _ _ _ => rfl, fun _ o h => ⟨o, h⟩⟩
theorem Step.trans (a : Step O Hf H Hf1 H1) (b : Step O1 Hf1 H1 Hf2 H2) (h : ∀ p, O1 p → O p ∨ H p = none) : Step O Hf H Hf2 H2 := by
  have no : ∀ p o, H p = some o → ¬ O p → ¬ O1 p := fun p o e n z => by
    rcases h p z with q | q
    · exact n q
    · rw [e] at q; cases q
  refine ⟨fun p o e => b.ff p o (a.ff p o e), b.fh, fun p o e n => b.keep p o (a.keep p o e n) (no p o e n), fun p o e n => (b.nof p o (a.keep p o e n) (no p o e n)).trans (a.nof p o e n), fun p o e => ?_⟩
  obtain ⟨o', e'⟩ := a.dom p o e
  exact b.dom p o' e'
theorem Step.weak (a : Step O Hf H Hf1 H1) (h : ∀ p, O p → O1 p ∨ H p = none) : Step O1 Hf H Hf1 H1 := by
  have no : ∀ p o, H p = some o → ¬ O1 p → ¬ O p := fun p o e n z => by
    rcases h p z with q | q
    · exact n q
    · rw [e] at q; cases q
  exact ⟨a.ff, a.fh, fun p o e n => a.keep p o e (no p o e n), fun p o e n => a.nof p o e (no p o e n), a.dom⟩
theorem Step.fresh (a : Step O Hf H Hf1 H1) {p : Addr} (h : H1 p = none) : H p = none := by
  cases q : H p with
  | none => rfl
  | some o =>
    obtain ⟨o', e⟩ := a.dom p o q
    rw [h] at e; cases e

theorem RepOb.there {p : Addr} {o : Ob} (h : RepOb K Hf H p o) : ∃ x, H p = some x := by
  cases o with
  | lst xs => obtain ⟨_, e, _⟩ := h; exact ⟨_, e⟩
  | dct xs => obtain ⟨_, e, _⟩ := h; exact ⟨_, e⟩
theorem RepOb.step {p : Addr} {o : Ob} (h : RepOb K Hf H p o) (a : Step O Hf H Hf1 H1) (n : ¬ O p) : RepOb K Hf1 H1 p o := by
  cases o with
  | lst xs => obtain ⟨vs, e, d⟩ := h; exact ⟨vs, a.keep p _ e n, dps_mono a.ff _ _ d⟩
  | dct xs => obtain ⟨vs, e, d⟩ := h; exact ⟨vs, a.keep p _ e n, kvs_mono a.ff d⟩
theorem RepSl.step {s : Sl} {u : V} (h : RepSl K Hf H s u) (a : Step O Hf H Hf1 H1) (n : ∀ p, isOb (some s) = true → u = .ref p → ¬ O p) : RepSl K Hf1 H1 s u := by
  cases s with
  | val v => exact dp_mono a.ff _ _ h
  | own o =>
    obtain ⟨p, e, f, r⟩ := h
    obtain ⟨x, hx⟩ := r.there
    exact ⟨p, e, by rw [a.nof p x hx (n p rfl e)]; exact f, r.step a (n p rfl e)⟩
  | ref o =>
    obtain ⟨p, e, f, r⟩ := h
    obtain ⟨x, hx⟩ := r.there
    exact ⟨p, e, by rw [a.nof p x hx (n p rfl e)]; exact f, r.step a (n p rfl e)⟩
  | lck kvs => obtain ⟨p, e, ws, od, f, r⟩ := h; exact ⟨p, e, ws, od, a.ff p _ f, kvs_mono a.ff r⟩
/-- the names stand behind a step that touches none of their objects -/
theorem RepE.step (E : RepE K Hf H ρ σ) (a : Step O Hf H Hf1 H1) (n : ∀ p, Own ρ σ p → ¬ O p) : RepE K Hf1 H1 ρ σ := by
  refine ⟨E.len, a.fh, fun i s e => ?_, E.dis⟩
  obtain ⟨u, h1, h2⟩ := E.sl i s e
  refine ⟨u, h1, h2.step a fun p ho hu => n p ⟨i, ?_, ?_⟩⟩
  · rw [e]; exact ho
  · rw [h1, hu]
theorem RepE.there (E : RepE K Hf H ρ σ) {p : Addr} (h : Own ρ σ p) : (∃ x, H p = some x) ∧ Hf p = none := by
  obtain ⟨i, h1, h2⟩ := h
  cases q : get ρ i with
  | none => rw [q] at h1; cases h1
  | some s =>
    obtain ⟨u, h3, h4⟩ := E.sl i s q
    rw [h2] at h3; cases h3
    rw [q] at h1
    cases s with
    | val v => cases h1
    | own o => obtain ⟨p', e, f, r⟩ := h4; cases e; exact ⟨r.there, f⟩
    | ref o => obtain ⟨p', e, f, r⟩ := h4; cases e; exact ⟨r.there, f⟩
    | lck kvs => cases h1
theorem Kp.refl : Kp ρ ρ := ⟨fun _ h => h, fun _ => rfl⟩
theorem Kp.trans (a : Kp ρ ρ1) (b : Kp ρ1 ρ2) : Kp ρ ρ2 := ⟨fun i h => a.own i (b.own i h), fun i => (b.ref i).trans (a.ref i)⟩
theorem Kp.sub (a : Kp ρ ρ1) {p : Addr} (h : Own ρ1 σ p) : Own ρ σ p := by
  obtain ⟨i, h1, h2⟩ := h
  exact ⟨i, a.own i h1, h2⟩
theorem RepR.step {r : R} {u : V} (h : RepR K Hf H H0 σ r u) (a : Step O Hf H Hf1 H1) (n : ∀ p, O p → H0 p ≠ none) : RepR K Hf1 H1 H0 σ r u := by
  cases r with
  | val v => exact dp_mono a.ff _ _ h
  | new o =>
    obtain ⟨p, e, z, f, r⟩ := h
    obtain ⟨x, hx⟩ := r.there
    have np : ¬ O p := fun q => n p q z
    exact ⟨p, e, z, by rw [a.nof p x hx np]; exact f, r.step a np⟩
  | bor i => exact h
theorem RepR.back {r : R} {u : V} (h : RepR K Hf H H1 σ r u) (z : ∀ p, H1 p = none → H0 p = none) : RepR K Hf H H0 σ r u := by
  cases r with
  | val v => exact h
  | new o => obtain ⟨p, e, q, f, r⟩ := h; exact ⟨p, e, z p q, f, r⟩
  | bor i => exact h
theorem look_ok {r : R} {u : V} {c : Ct} (E : RepE K Hf H ρ σ) (h : RepR K Hf H H0 σ r u) (l : look r ρ = some c) : RepC K Hf H c u := by
  cases r with
  | val v => cases l; exact h
  | new o => cases l; obtain ⟨p, e, _, _, r⟩ := h; exact ⟨p, e, r.co⟩
  | bor i =>
    have l' : (get ρ i).map Sl.ct = some c := l
    cases q : get ρ i with
    | none => rw [q] at l'; cases l'
    | some s =>
      rw [q] at l'
      cases l'
      obtain ⟨u', h3, h4⟩ := E.sl i s q
      have h' : slot σ i = some u := h
      rw [h'] at h3; cases h3
      cases s with
      | val v => exact h4
      | own o => obtain ⟨p, e, _, r⟩ := h4; exact ⟨p, e, r.co⟩
      | ref o => obtain ⟨p, e, _, r⟩ := h4; exact ⟨p, e, r.co⟩
      | lck kvs => obtain ⟨p, e, ws, od, f, r⟩ := h4; exact ⟨p, e, ws, .inr ⟨od, E.ff p _ f⟩, r⟩
def isLck : Option Sl → Bool
  | some (.lck _) => true
  | _ => false
theorem isRef_isOb {s : Option Sl} (h : isRef s = true) (n : isLck s = false) : isOb s = true := by
  cases s with
  | none => cases h
  | some s => cases s <;> first | rfl | (cases h; done) | (simp [isLck] at n; done)
/-- a list that was nobody's, or a name's own, becomes a value -/
theorem frz_list {p : Addr} {xs : List PV} (e : Ex Hf H) (f : Hf p = none) (r : RepOb K Hf H p (.lst xs)) (hO : O p) :
    ∃ Hf', Step O Hf H Hf' H ∧ Dp K Hf' (.ref p) (.list xs) ∧ (∀ q, q ≠ p → Hf' q = Hf q) := by
  obtain ⟨vs, hv, d⟩ := r
  have ex : Ex Hf (upd Hf p (.lst vs)) := fun a o h => by
    rw [upd_ne (ne_of_none h f)]; exact h
  refine ⟨upd Hf p (.lst vs), ⟨ex, fun a o h => ?_, fun _ _ h _ => h, fun a o h n => ?_, fun _ o h => ⟨o, h⟩⟩, .lst (SqL.of upd_same) (dps_mono ex _ _ d), fun q hq => upd_ne hq⟩
  · by_cases ha : a = p
    · subst ha; rw [upd_same] at h; cases h; exact hv
    · rw [upd_ne ha] at h; exact e a o h
  · exact upd_ne fun z => n (z ▸ hO)
theorem frz_ok {r : R} {u : V} {v : PV} (E : RepE K Hf H ρ σ) (h : RepR K Hf H H0 σ r u) (no : ∀ q, Own ρ σ q → H0 q ≠ none) (l : frz r ρ = some (v, ρ')) :
    ∃ Hf', Step (fun p => Own ρ σ p ∨ H0 p = none) Hf H Hf' H ∧ RepE K Hf' H ρ' σ ∧ Dp K Hf' u v ∧ Kp ρ ρ' := by
  cases r with
  | val w => cases l; exact ⟨Hf, .refl E.ff, E, h, .refl⟩
  | new o =>
    obtain ⟨p, e, z, f, r⟩ := h
    subst e
    cases o with
    | dct kvs => cases l
    | lst xs =>
      cases l
      obtain ⟨Hf', S, d, hq⟩ := frz_list (O := fun p => p = p ∧ (Own ρ σ p ∨ H0 p = none)) E.ff f r ⟨rfl, .inr z⟩
      refine ⟨Hf', S.weak fun q hq => .inl hq.2, ⟨E.len, S.fh, fun i s e => ?_, E.dis⟩, d, .refl⟩
      obtain ⟨u, h1, h2⟩ := E.sl i s e
      refine ⟨u, h1, ?_⟩
      cases s with
      | val w => exact dp_mono S.ff _ _ h2
      | own o =>
        obtain ⟨q, e1, f1, r1⟩ := h2
        have nq : q ≠ p := fun y => no q ⟨i, by rw [e]; rfl, by rw [h1, e1]⟩ (y ▸ z)
        refine ⟨q, e1, by rw [hq q nq]; exact f1, ?_⟩
        cases o with
        | lst ys => obtain ⟨vs, a, b⟩ := r1; exact ⟨vs, a, dps_mono S.ff _ _ b⟩
        | dct ys => obtain ⟨vs, a, b⟩ := r1; exact ⟨vs, a, kvs_mono S.ff b⟩
      | ref o =>
        obtain ⟨q, e1, f1, r1⟩ := h2
        have nq : q ≠ p := fun y => no q ⟨i, by rw [e]; rfl, by rw [h1, e1]⟩ (y ▸ z)
        refine ⟨q, e1, by rw [hq q nq]; exact f1, ?_⟩
        cases o with
        | lst ys => obtain ⟨vs, a, b⟩ := r1; exact ⟨vs, a, dps_mono S.ff _ _ b⟩
        | dct ys => obtain ⟨vs, a, b⟩ := r1; exact ⟨vs, a, kvs_mono S.ff b⟩
      | lck kvs => obtain ⟨q, e1, ws, od, f, r⟩ := h2; exact ⟨q, e1, ws, od, S.ff q _ f, kvs_mono S.ff r⟩
  | bor i =>
    have h' : slot σ i = some u := h
    cases q : get ρ i with
    | none => simp only [frz, q] at l; cases l
    | some s =>
      obtain ⟨u', h3, h4⟩ := E.sl i s q
      rw [h'] at h3; cases h3
      cases s with
      | val w =>
        simp only [frz, q] at l
        cases l
        exact ⟨Hf, .refl E.ff, E, h4, .refl⟩
      | ref o => simp only [frz, q] at l; cases l
      | lck kvs => simp only [frz, q] at l; cases l
      | own o =>
        cases o with
        | dct kvs => simp only [frz, q, frzO] at l; cases l
        | lst xs =>
          simp only [frz, q, frzO, Option.map_some] at l
          cases l
          obtain ⟨p, e, f, r⟩ := h4
          subst e
          have oi : OwnAt ρ σ i p := ⟨by rw [q]; rfl, h'⟩
          obtain ⟨Hf', S, d, hq⟩ := frz_list (O := fun p => Own ρ σ p ∨ H0 p = none) E.ff f r (.inl ⟨i, oi⟩)
          have oth : ∀ j, OwnAt (ρ.set i (some (.val (.list xs)))) σ j p → False := fun j ⟨a, b⟩ => by
            rw [get_set] at a
            split at a
            · cases a
            · rename_i nn
              have ej := E.dis i j p oi ⟨a, b⟩
              subst ej
              refine nn ⟨rfl, ?_⟩
              have := (List.getElem?_eq_some_iff.mp (slot_at h')).1
              rw [E.len]; exact this
          have sub : ∀ j p', OwnAt (ρ.set i (some (.val (.list xs)))) σ j p' → OwnAt ρ σ j p' := fun j p' ⟨a, b⟩ => ⟨by
            rw [get_set] at a
            split at a
            · cases a
            · exact a, b⟩
          refine ⟨Hf', S, ⟨by rw [List.length_set]; exact E.len, S.fh, fun j s e => ?_, fun j k p' a b => E.dis j k p' (sub j p' a) (sub k p' b)⟩, d, ⟨fun j a => ?_, fun j => ?_⟩⟩
          · rw [get_set] at e
            split at e
            · rename_i hh
              cases e
              obtain ⟨rfl, _⟩ := hh
              exact ⟨_, h', d⟩
            · rename_i nn
              obtain ⟨u, h1, h2⟩ := E.sl j s e
              refine ⟨u, h1, ?_⟩
              cases s with
              | val w => exact dp_mono S.ff _ _ h2
              | own o =>
                obtain ⟨q', e1, f1, r1⟩ := h2
                have nq : q' ≠ p := fun y => oth j ⟨by rw [get_set, if_neg nn, e]; rfl, by rw [h1, e1, y]⟩
                refine ⟨q', e1, by rw [hq q' nq]; exact f1, ?_⟩
                cases o with
                | lst ys => obtain ⟨vs, a, b⟩ := r1; exact ⟨vs, a, dps_mono S.ff _ _ b⟩
                | dct ys => obtain ⟨vs, a, b⟩ := r1; exact ⟨vs, a, kvs_mono S.ff b⟩
              | ref o =>
                obtain ⟨q', e1, f1, r1⟩ := h2
                have nq : q' ≠ p := fun y => oth j ⟨by rw [get_set, if_neg nn, e]; rfl, by rw [h1, e1, y]⟩
                refine ⟨q', e1, by rw [hq q' nq]; exact f1, ?_⟩
                cases o with
                | lst ys => obtain ⟨vs, a, b⟩ := r1; exact ⟨vs, a, dps_mono S.ff _ _ b⟩
                | dct ys => obtain ⟨vs, a, b⟩ := r1; exact ⟨vs, a, kvs_mono S.ff b⟩
              | lck kvs => obtain ⟨q', e1, ws, od, f, r⟩ := h2; exact ⟨q', e1, ws, od, S.ff q' _ f, kvs_mono S.ff r⟩
          · rw [get_set] at a
            split at a
            · cases a
            · exact a
          · rw [get_set]
            split
            · rename_i hh
              obtain ⟨rfl, _⟩ := hh
              rw [q]; rfl
            · rfl
end
end Py
/-! Py2: expressions. -/
namespace Py
open PySem PySem.Spec PyProof.Rows L2

def Nobody : Addr → Prop := fun _ => False
/-- the sound meaning of a reading -/
def SE (K : PySem.W.Frag) (te : TE) (m : M) : Prop := ∀ (ρ : Env) (r : R) (ρ' : Env) (σ : L2.St) (Hf H : Hp), m ρ = some (r, ρ') → RepE K Hf H ρ σ → ∀ Q : VK,
  (∀ u Hf' H', Step (Own ρ σ) Hf H Hf' H' → RepE K Hf' H' ρ' σ → RepR K Hf' H' H σ r u → Kp ρ ρ' → Q u H') → te σ H Q
def ST (K : PySem.W.Frag) (tt : TT) (m : MT) : Prop := ∀ (ρ : Env) (b : Bool) (ρ' : Env) (σ : L2.St) (Hf H : Hp), m ρ = some (b, ρ') → RepE K Hf H ρ σ → ∀ Q : Bool → Hp → Prop,
  (∀ Hf' H', Step (Own ρ σ) Hf H Hf' H' → RepE K Hf' H' ρ' σ → Kp ρ ρ' → Q b H') → tt σ H Q
def SLs (K : PySem.W.Frag) (ta : TA) (m : ML) : Prop := ∀ (ρ : Env) (vs : List PV) (ρ' : Env) (σ : L2.St) (Hf H : Hp), m ρ = some (vs, ρ') → RepE K Hf H ρ σ → ∀ Q : List V → Hp → Prop,
  (∀ us Hf' H', Step (Own ρ σ) Hf H Hf' H' → RepE K Hf' H' ρ' σ → DpAll K Hf' us vs → Kp ρ ρ' → Q us H') → ta σ H Q
structure BE (X : Cx) (e : Expr) (m : M) : Prop where
  ex : ∃ te, PE X e te ∧ SE X.K te m
structure BT (X : Cx) (e : Expr) (m : MT) : Prop where
  ex : ∃ tt, PT X e tt ∧ ST X.K tt m
structure BW (X : Cx) (e : Expr) (m : MT) : Prop where
  ex : ∃ tt, PW X e tt ∧ ST X.K tt m
structure BL (X : Cx) (es : List Expr) (m : ML) : Prop where
  ex : ∃ ta, PA X es ta ∧ SLs X.K ta m
/-- a two-place operation by contents -/
def OpS (K : PySem.W.Frag) (r : R2) (f : Ct → Ct → Option R) : Prop := ∀ (Hf H : Hp) (c d : Ct) (x y : V) (z : R), Ex Hf H → RepC K Hf H c x → RepC K Hf H d y → f c d = some z → ∀ Q : VK,
  (∀ u Hf' H', Step Nobody Hf H Hf' H' → RepR K Hf' H' H [] z u → Q u H') → r x y H Q
structure OpB (X : Cx) (fn : Value → Value → Sem Value) (f : Ct → Ct → Option R) : Prop where
  ex : ∃ r, OpR X fn r ∧ OpS X.K r f
def UnS (K : PySem.W.Frag) (r : V → Hp → VK → Prop) (f : Ct → Option R) : Prop := ∀ (Hf H : Hp) (c : Ct) (x : V) (z : R), Ex Hf H → RepC K Hf H c x → f c = some z → ∀ Q : VK,
  (∀ u Hf' H', Step Nobody Hf H Hf' H' → RepR K Hf' H' H [] z u → Q u H') → r x H Q

section
variable {K : PySem.W.Frag} {Hf H Hf' H' Hf1 H1 Hf2 H2 H0 : Hp} {ρ ρ' ρ1 ρ2 : Env} {σ σ' : L2.St} {O O' O1 : Addr → Prop}
theorem RepR.any {r : R} {u : V} (h : RepR K Hf H H0 [] r u) : RepR K Hf H H0 σ r u := by
  cases r with
  | val v => exact h
  | new o => exact h
  | bor i =>
    have h' : slot [] i = some u := h
    simp [slot] at h'
/-- behind a: what holds there, for what comes behind it -/
structure Bh (K : PySem.W.Frag) (Hf H : Hp) (ρ : Env) (σ : L2.St) (Hf1 H1 : Hp) (ρ1 : Env) : Prop where
  st : Step (Own ρ σ) Hf H Hf1 H1
  en : RepE K Hf1 H1 ρ1 σ
  kp : Kp ρ ρ1
theorem Bh.refl (E : RepE K Hf H ρ σ) : Bh K Hf H ρ σ Hf H ρ := ⟨.refl E.ff, E, .refl⟩
theorem Bh.trans (a : Bh K Hf H ρ σ Hf1 H1 ρ1) (b : Bh K Hf1 H1 ρ1 σ Hf2 H2 ρ2) : Bh K Hf H ρ σ Hf2 H2 ρ2 :=
  ⟨a.st.trans b.st fun p h => .inl (a.kp.sub h), b.en, a.kp.trans b.kp⟩
/-- a step that touches nobody's object -/
theorem Bh.more (a : Bh K Hf H ρ σ Hf1 H1 ρ1) (b : Step Nobody Hf1 H1 Hf2 H2) : Bh K Hf H ρ σ Hf2 H2 ρ1 :=
  ⟨a.st.trans b fun p h => h.elim, a.en.step b fun _ _ h => h, a.kp⟩
theorem Bh.fresh (a : Bh K Hf H ρ σ Hf1 H1 ρ1) {p : Addr} (h : H1 p = none) : H p = none := a.st.fresh h
theorem Bh.no (a : Bh K Hf H ρ σ Hf1 H1 ρ1) (E : RepE K Hf H ρ σ) : ∀ q, Own ρ1 σ q → H q ≠ none := fun q h z => by
  obtain ⟨⟨x, hx⟩, _⟩ := E.there (a.kp.sub h)
  rw [z] at hx; cases hx
/-- an older result, behind what came behind it -/
theorem Bh.keepR (a : Bh K Hf H ρ σ Hf1 H1 ρ1) (E : RepE K Hf H ρ σ) (b : Bh K Hf1 H1 ρ1 σ Hf2 H2 ρ2) {r : R} {u : V} (h : RepR K Hf1 H1 H σ r u) : RepR K Hf2 H2 H σ r u :=
  h.step b.st fun p hp => a.no E p hp
theorem Bh.frz (a : Bh K Hf H ρ σ Hf1 H1 ρ1) (E : RepE K Hf H ρ σ) {r : R} {u : V} {v : PV} (h : RepR K Hf1 H1 H σ r u) (l : Py.frz r ρ1 = some (v, ρ2)) : ∃ Hf2, Bh K Hf H ρ σ Hf2 H1 ρ2 ∧ Dp K Hf2 u v := by
  obtain ⟨Hf2, S, E2, d, k⟩ := frz_ok a.en h (a.no E) l
  refine ⟨Hf2, ⟨a.st.trans S fun p hp => ?_, E2, a.kp.trans k⟩, d⟩
  rcases hp with hp | hp
  · exact .inl (a.kp.sub hp)
  · exact .inr hp

/-! ### the pieces -/
theorem se_c {v : PV} {u : V} (h : ∀ Hf, Dp K Hf u v) : SE K (tC u) (mC v) := by
  intro ρ r ρ' σ Hf H hm E Q q
  cases hm
  exact q u Hf H (.refl E.ff) E (h Hf) .refl
theorem se_var (i : Nat) : SE K (tVar i) (mVar i) := by
  intro ρ r ρ' σ Hf H hm E Q q
  unfold mVar at hm
  cases g : get ρ i with
  | none => rw [g] at hm; cases hm
  | some s =>
    rw [g] at hm
    obtain ⟨u, h1, h2⟩ := E.sl i s g
    refine ⟨u, slot_at h1, ?_⟩
    cases s with
    | val v => cases hm; exact q u Hf H (.refl E.ff) E h2 .refl
    | own o => cases hm; exact q u Hf H (.refl E.ff) E h1 .refl
    | ref o => cases hm; exact q u Hf H (.refl E.ff) E h1 .refl
    | lck kvs => cases hm; exact q u Hf H (.refl E.ff) E h1 .refl
theorem se_op {ta tb : TE} {a b : M} {r : R2} {f : Ct → Ct → Option R} (ha : SE K ta a) (hb : SE K tb b) (hr : OpS K r f) : SE K (tOp r ta tb) (mOp f a b) := by
  intro ρ r' ρ' σ Hf H hm E Q q
  simp only [mOp, Option.bind_eq_some_iff, Option.map_eq_some_iff, Prod.mk.injEq] at hm
  obtain ⟨⟨x, ρ1⟩, e1, ⟨y, ρ2⟩, e2, c, e3, d, e4, z, e5, rfl, rfl⟩ := hm
  refine ha ρ x ρ1 σ Hf H e1 E _ fun u Hf1 H1 S1 E1 R1 k1 => ?_
  have B1 : Bh K Hf H ρ σ Hf1 H1 ρ1 := ⟨S1, E1, k1⟩
  refine hb ρ1 y ρ2 σ Hf1 H1 e2 E1 _ fun w Hf2 H2 S2 E2 R2 k2 => ?_
  have B2 : Bh K Hf1 H1 ρ1 σ Hf2 H2 ρ2 := ⟨S2, E2, k2⟩
  have R1' := B1.keepR E B2 R1
  refine hr Hf2 H2 c d u w z E2.ff (look_ok E2 R1' e3) (look_ok E2 R2 e4) e5 _ fun t Hf3 H3 S3 R3 => ?_
  have B3 := (B1.trans B2).more S3
  exact q t Hf3 H3 B3.st B3.en (R3.any.back fun p hp => (B1.trans B2).fresh hp) B3.kp
theorem se_un {ta : TE} {a : M} {r : V → Hp → VK → Prop} {f : Ct → Option R} (ha : SE K ta a) (hr : UnS K r f) : SE K (tUn r ta) (mUn f a) := by
  intro ρ r' ρ' σ Hf H hm E Q q
  simp only [mUn, Option.bind_eq_some_iff, Option.map_eq_some_iff, Prod.mk.injEq] at hm
  obtain ⟨⟨x, ρ1⟩, e1, c, e3, z, e5, rfl, rfl⟩ := hm
  refine ha ρ x ρ1 σ Hf H e1 E _ fun u Hf1 H1 S1 E1 R1 k1 => ?_
  have B1 : Bh K Hf H ρ σ Hf1 H1 ρ1 := ⟨S1, E1, k1⟩
  refine hr Hf1 H1 c u z E1.ff (look_ok E1 R1 e3) e5 _ fun t Hf3 H3 S3 R3 => ?_
  have B3 := B1.more S3
  exact q t Hf3 H3 B3.st B3.en (R3.any.back fun p hp => B1.fresh hp) B3.kp
theorem boolOf_some {c : Ct} {b : Bool} (h : boolOf c = some b) : c = .pv (.bool b) := by
  unfold boolOf at h
  split at h
  · cases h; rfl
  · cases h
theorem rep_bool {b : Bool} {u : V} (h : RepC K Hf H (.pv (.bool b)) u) : u = .bl b := by cases h; rfl
theorem st_B {ta : TE} {a : M} (ha : SE K ta a) : ST K (tTest ta) (mB a) := by
  intro ρ b ρ' σ Hf H hm E Q q
  simp only [mB, Option.bind_eq_some_iff, Option.map_eq_some_iff, Prod.mk.injEq] at hm
  obtain ⟨⟨x, ρ1⟩, e1, c, e3, z, e5, rfl, rfl⟩ := hm
  refine ha ρ x ρ1 σ Hf H e1 E _ fun u Hf1 H1 S1 E1 R1 k1 => ?_
  have hc := look_ok E1 R1 e3
  rw [boolOf_some e5] at hc
  exact ⟨z, rep_bool hc, q Hf1 H1 S1 E1 k1⟩
theorem dps_isEmpty {us : List V} {vs : List PV} (h : DpAll K H us vs) : (!us.isEmpty) = !vs.isEmpty := by cases h <;> rfl
theorem tru_of {c : Ct} {b : Bool} {u : V} (e : Ex Hf H) (h : truOf c = some b) (r : RepC K Hf H c u) : TruV K u H b := by
  cases c with
  | pv v =>
    cases v with
    | none => cases h; cases r; exact rfl
    | bool b => cases h; cases r; exact rfl
    | int i => cases h; cases r; exact rfl
    | str x => cases h
    | list xs => cases h; cases r with | lst hs ha => exact .inl ⟨_, ex_l e hs, (dps_isEmpty ha).symm⟩
    | tuple xs => cases h; cases r with | tup hs ha => exact .inr (.inl ⟨_, ex_t e hs, (dps_isEmpty ha).symm⟩)
    | dict kvs => cases h
  | ob o =>
    obtain ⟨p, rfl, r⟩ := r
    cases o with
    | lst xs => cases h; obtain ⟨vs, e1, d⟩ := r; exact .inl ⟨_, SqL.of e1, (dps_isEmpty d).symm⟩
    | dct xs => cases h
theorem st_tru {ta : TE} {a : M} (ha : SE K ta a) : ST K (fun σ H Q => ta σ H fun x H' => ∃ k, TruV K x H' k ∧ Q k H') (mTru a) := by
  intro ρ b ρ' σ Hf H hm E Q q
  simp only [mTru, Option.bind_eq_some_iff, Option.map_eq_some_iff, Prod.mk.injEq] at hm
  obtain ⟨⟨x, ρ1⟩, e1, c, e3, z, e5, rfl, rfl⟩ := hm
  refine ha ρ x ρ1 σ Hf H e1 E _ fun u Hf1 H1 S1 E1 R1 k1 => ?_
  exact ⟨z, tru_of E1.ff e5 (look_ok E1 R1 e3), q Hf1 H1 S1 E1 k1⟩
theorem st_and {ta tb : TT} {a b : MT} (ha : ST K ta a) (hb : ST K tb b) : ST K (tAnd ta tb) (mAnd a b) := by
  intro ρ z ρ' σ Hf H hm E Q q
  simp only [mAnd, Option.bind_eq_some_iff] at hm
  obtain ⟨⟨x, ρ1⟩, e1, e2⟩ := hm
  refine ha ρ x ρ1 σ Hf H e1 E _ fun Hf1 H1 S1 E1 k1 => ?_
  have B1 : Bh K Hf H ρ σ Hf1 H1 ρ1 := ⟨S1, E1, k1⟩
  cases x with
  | true =>
    simp only [if_true] at e2 ⊢
    refine hb ρ1 z ρ' σ Hf1 H1 e2 E1 _ fun Hf2 H2 S2 E2 k2 => ?_
    have B2 := B1.trans (⟨S2, E2, k2⟩ : Bh K Hf1 H1 ρ1 σ Hf2 H2 ρ')
    exact q Hf2 H2 B2.st B2.en B2.kp
  | false =>
    simp only [Bool.false_eq_true, if_false] at e2 ⊢
    cases e2
    exact q Hf1 H1 S1 E1 k1
theorem st_or {ta tb : TT} {a b : MT} (ha : ST K ta a) (hb : ST K tb b) : ST K (tOr ta tb) (mOr a b) := by
  intro ρ z ρ' σ Hf H hm E Q q
  simp only [mOr, Option.bind_eq_some_iff] at hm
  obtain ⟨⟨x, ρ1⟩, e1, e2⟩ := hm
  refine ha ρ x ρ1 σ Hf H e1 E _ fun Hf1 H1 S1 E1 k1 => ?_
  have B1 : Bh K Hf H ρ σ Hf1 H1 ρ1 := ⟨S1, E1, k1⟩
  cases x with
  | false =>
    simp only [Bool.false_eq_true, if_false] at e2 ⊢
    refine hb ρ1 z ρ' σ Hf1 H1 e2 E1 _ fun Hf2 H2 S2 E2 k2 => ?_
    have B2 := B1.trans (⟨S2, E2, k2⟩ : Bh K Hf1 H1 ρ1 σ Hf2 H2 ρ')
    exact q Hf2 H2 B2.st B2.en B2.kp
  | true =>
    simp only [if_true] at e2 ⊢
    cases e2
    exact q Hf1 H1 S1 E1 k1
theorem st_not {ta : TT} {a : MT} (ha : ST K ta a) : ST K (tNot ta) (mNot a) := by
  intro ρ z ρ' σ Hf H hm E Q q
  simp only [mNot, Option.bind_eq_some_iff, Option.some.injEq, Prod.mk.injEq] at hm
  obtain ⟨⟨x, ρ1⟩, e1, rfl, rfl⟩ := hm
  exact ha ρ x ρ1 σ Hf H e1 E _ fun Hf1 H1 S1 E1 k1 => q Hf1 H1 S1 E1 k1
theorem se_andV {ta tb : TE} {a b : M} (ha : SE K ta a) (hb : SE K tb b) : SE K (tAndV ta tb) (mAndV a b) := by
  intro ρ z ρ' σ Hf H hm E Q q
  simp only [mAndV, Option.bind_eq_some_iff] at hm
  obtain ⟨⟨x, ρ1⟩, e1, c, e2, k, e3, e4⟩ := hm
  refine ha ρ x ρ1 σ Hf H e1 E _ fun u Hf1 H1 S1 E1 R1 k1 => ?_
  have B1 : Bh K Hf H ρ σ Hf1 H1 ρ1 := ⟨S1, E1, k1⟩
  have hc := look_ok E1 R1 e2
  rw [boolOf_some e3] at hc
  refine ⟨k, rep_bool hc, ?_⟩
  cases k with
  | true =>
    simp only [if_true] at e4 ⊢
    refine hb ρ1 z ρ' σ Hf1 H1 e4 E1 _ fun w Hf2 H2 S2 E2 R2 k2 => ?_
    have B2 := B1.trans (⟨S2, E2, k2⟩ : Bh K Hf1 H1 ρ1 σ Hf2 H2 ρ')
    exact q w Hf2 H2 B2.st B2.en (R2.back fun p hp => B1.fresh hp) B2.kp
  | false =>
    simp only [Bool.false_eq_true, if_false] at e4 ⊢
    cases e4
    exact q _ Hf1 H1 S1 E1 (.bl false) k1
theorem se_notV {ta : TE} {a : M} (ha : SE K ta a) : SE K (tNotV ta) (mNotV a) := by
  intro ρ z ρ' σ Hf H hm E Q q
  simp only [mNotV, Option.bind_eq_some_iff, Option.some.injEq, Prod.mk.injEq] at hm
  obtain ⟨⟨x, ρ1⟩, e1, c, e2, k, e3, rfl, rfl⟩ := hm
  refine ha ρ x ρ1 σ Hf H e1 E _ fun u Hf1 H1 S1 E1 R1 k1 => ?_
  have hc := look_ok E1 R1 e2
  rw [boolOf_some e3] at hc
  exact ⟨k, rep_bool hc, q _ Hf1 H1 S1 E1 (.bl (!k)) k1⟩
theorem sl_nil : SLs K tNil lNil := by
  intro ρ vs ρ' σ Hf H hm E Q q
  cases hm
  exact q [] Hf H (.refl E.ff) E .nil .refl
theorem sl_cons {ta : TE} {tr : TA} {a : M} {r : ML} (ha : SE K ta a) (hr : SLs K tr r) : SLs K (tCons ta tr) (lCons a r) := by
  intro ρ vs ρ' σ Hf H hm E Q q
  simp only [lCons, Option.bind_eq_some_iff, Option.map_eq_some_iff, Prod.mk.injEq] at hm
  obtain ⟨⟨x, ρ1⟩, e1, ⟨v, ρ2⟩, e2, ⟨vs', ρ3⟩, e3, rfl, rfl⟩ := hm
  refine ha ρ x ρ1 σ Hf H e1 E _ fun u Hf1 H1 S1 E1 R1 k1 => ?_
  have B1 : Bh K Hf H ρ σ Hf1 H1 ρ1 := ⟨S1, E1, k1⟩
  obtain ⟨Hf2, B2, d⟩ := B1.frz E R1 e2
  refine hr ρ2 vs' ρ3 σ Hf2 H1 e3 B2.en _ fun us Hf3 H3 S3 E3 D3 k3 => ?_
  have B3 := B2.trans (⟨S3, E3, k3⟩ : Bh K Hf2 H1 ρ2 σ Hf3 H3 ρ3)
  exact q (u :: us) Hf3 H3 B3.st B3.en (.cons (dp_mono S3.ff _ _ d) D3) B3.kp
theorem line_eq : line = sizeLine := by rw [sizeLine_eq]; rfl
/-- a new tuple, a new list -/
theorem new_tup {us : List V} {vs : List PV} (e : Ex Hf H) (d : DpAll K Hf us vs) {p : Addr} (hp : H p = none) : Step Nobody Hf H (upd Hf p (.tup us)) (upd H p (.tup us)) ∧ Dp K (upd Hf p (.tup us)) (.ref p) (.tuple vs) := by
  have fp : Hf p = none := by
    cases z : Hf p with
    | none => rfl
    | some o => have := e p o z; rw [hp] at this; cases this
  have ex : Ex Hf (upd Hf p (.tup us)) := fun a o h => by rw [upd_ne (ne_of_none h fp)]; exact h
  refine ⟨⟨ex, fun a o h => ?_, fun a o h _ => by rw [upd_ne (ne_of_none h hp)]; exact h, fun a o h _ => upd_ne (ne_of_none h hp), fun a o h => ⟨o, by rw [upd_ne (ne_of_none h hp)]; exact h⟩⟩, .tup (SqT.of upd_same) (dps_mono ex _ _ d)⟩
  by_cases ha : a = p
  · subst ha; rw [upd_same] at h ⊢; exact h
  · rw [upd_ne ha] at h ⊢; exact e a o h
theorem new_ob {o : HO} (e : Ex Hf H) {p : Addr} (hp : H p = none) : Step Nobody Hf H Hf (upd H p o) ∧ Hf p = none := by
  have fp : Hf p = none := by
    cases z : Hf p with
    | none => rfl
    | some o => have := e p o z; rw [hp] at this; cases this
  exact ⟨⟨fun _ _ h => h, fun a o h => by rw [upd_ne (ne_of_none h fp)]; exact e a o h, fun a o h _ => by rw [upd_ne (ne_of_none h hp)]; exact h, fun _ _ _ _ => rfl, fun a o h => ⟨o, by rw [upd_ne (ne_of_none h hp)]; exact h⟩⟩, fp⟩
theorem se_tup {ta : TA} {l : ML} (hl : SLs K ta l) : SE K (tTup ta) (mTup l) := by
  intro ρ z ρ' σ Hf H hm E Q q
  simp only [mTup, Option.bind_eq_some_iff] at hm
  obtain ⟨⟨vs, ρ1⟩, e1, e2⟩ := hm
  split at e2
  · rename_i hz
    cases e2
    refine hl ρ vs ρ1 σ Hf H e1 E _ fun us Hf1 H1 S1 E1 D1 k1 => ?_
    have B1 : Bh K Hf H ρ σ Hf1 H1 ρ1 := ⟨S1, E1, k1⟩
    refine ⟨by rw [dps_len D1, ← line_eq]; exact hz, fun p hp => ?_⟩
    obtain ⟨S, d⟩ := new_tup E1.ff D1 hp
    have B2 := B1.more S
    exact q _ _ _ B2.st B2.en d B2.kp
  · cases e2
theorem se_lst {ta : TA} {l : ML} (hl : SLs K ta l) : SE K (tLst ta) (mLst l) := by
  intro ρ z ρ' σ Hf H hm E Q q
  simp only [mLst, Option.bind_eq_some_iff] at hm
  obtain ⟨⟨vs, ρ1⟩, e1, e2⟩ := hm
  split at e2
  · rename_i hz
    cases e2
    refine hl ρ vs ρ1 σ Hf H e1 E _ fun us Hf1 H1 S1 E1 D1 k1 => ?_
    have B1 : Bh K Hf H ρ σ Hf1 H1 ρ1 := ⟨S1, E1, k1⟩
    refine ⟨by rw [dps_len D1, ← line_eq]; exact hz, fun p hp => ?_⟩
    obtain ⟨S, fp⟩ := new_ob (o := .lst us) E1.ff hp
    have B2 := B1.more S
    exact q _ _ _ B2.st B2.en ⟨p, rfl, B1.fresh hp, fp, us, upd_same, D1⟩ B2.kp
  · cases e2
end

/-! ### the rules a derivation is made of -/
section
variable {X : Cx} {a b c : Expr} {ma mb mc : M} {ta tb : MT} {pos : Pos}
theorem be_var (i : Nat) {x : Str} {pos : Pos} (hN : X.N[i]? = some x := by rfl) (hv : Vis X.env.scope x := by first | exact Or.inl rfl | exact Or.inr (Or.inl rfl) | exact Or.inr (Or.inr rfl)) (hd : (x == ("__debug__" : Str)) = false := by decide)
    (hcd : (x == ("__classdict__" : Str)) = false := by decide) : BE X (.Name x pos) (mVar i) := ⟨_, pe_var hN hv hd hcd, se_var i⟩
theorem be_int {i j pos} : BE X (.Constant (.int i) j pos) (mC (.int i)) := ⟨_, pe_int, se_c fun _ => .int i⟩
theorem be_bl {b j pos} : BE X (.Constant (.bool b) j pos) (mC (.bool b)) := ⟨_, pe_bl, se_c fun _ => .bl b⟩
theorem be_non {j pos} : BE X (.Constant .none j pos) (mC .none) := ⟨_, pe_non, se_c fun _ => .non⟩
theorem be_op {op : Operator} {f : Ct → Ct → Option R} (ho : OpB X (binaryOp op) f) (ha : BE X a ma) (hb : BE X b mb) : BE X (.BinOp a op b pos) (mOp f ma mb) := by
  obtain ⟨r, h1, h2⟩ := ho
  obtain ⟨t1, a1, a2⟩ := ha
  obtain ⟨t2, b1, b2⟩ := hb
  exact ⟨_, pe_op h1 a1 b1, se_op a2 b2 h2⟩
theorem be_cmp {op : CmpOp} {f : Ct → Ct → Option R} (ho : OpB X (compareOp op) f) (ha : BE X a ma) (hb : BE X b mb) (hm : behindInMarks op b = false := by first | exact nomark _ | with_unfolding_all rfl) : BE X (.Compare a [op] [b] pos) (mOp f ma mb) := by
  obtain ⟨r, h1, h2⟩ := ho
  obtain ⟨t1, a1, a2⟩ := ha
  obtain ⟨t2, b1, b2⟩ := hb
  exact ⟨_, pe_cmpR h1 a1 b1 hm, se_op a2 b2 h2⟩
theorem bt_cmp {op : CmpOp} {f : Ct → Ct → Option R} (ho : OpB X (compareOp op) f) (ha : BE X a ma) (hb : BE X b mb) (hm : behindInMarks op b = false := by first | exact nomark _ | with_unfolding_all rfl) : BT X (.Compare a [op] [b] pos) (mB (mOp f ma mb)) := by
  obtain ⟨r, h1, h2⟩ := ho
  obtain ⟨t1, a1, a2⟩ := ha
  obtain ⟨t2, b1, b2⟩ := hb
  exact ⟨_, pt_cmpR h1 a1 b1 hm, st_B (se_op a2 b2 h2)⟩
/-- a test that is its value's truth -/
theorem bt_tru (ha : BE X a ma) (he : ∀ whole, isTrue a X.env whole = (do let v ← whole; standAt a.pos; holding [v] (truthy v)) := by intro _; rfl) : BT X a (mTru ma) := by
  obtain ⟨t, a1, a2⟩ := ha
  exact ⟨_, pt_truth a1 he, st_tru a2⟩
variable {rest : List Expr} {tr : MT}
theorem bw_and1 (ha : BT X a ta) : BW X (.BoolOp .And [a] pos) ta := let ⟨t, h1, h2⟩ := ha; ⟨t, pw_and1 h1, h2⟩
theorem bw_or1 (ha : BT X a ta) : BW X (.BoolOp .Or [a] pos) ta := let ⟨t, h1, h2⟩ := ha; ⟨t, pw_or1 h1, h2⟩
theorem bw_and (ha : BT X a ta) (hb : BW X (.BoolOp .And (b :: rest) pos) tr) : BW X (.BoolOp .And (a :: b :: rest) pos) (mAnd ta tr) := let ⟨t, h1, h2⟩ := ha; let ⟨u, h3, h4⟩ := hb; ⟨_, pw_and h1 h3, st_and h2 h4⟩
theorem bw_or (ha : BT X a ta) (hb : BW X (.BoolOp .Or (b :: rest) pos) tr) : BW X (.BoolOp .Or (a :: b :: rest) pos) (mOr ta tr) := let ⟨t, h1, h2⟩ := ha; let ⟨u, h3, h4⟩ := hb; ⟨_, pw_or h1 h3, st_or h2 h4⟩
theorem bt_w (ha : BW X a ta) : BT X a ta := let ⟨t, h1, h2⟩ := ha; ⟨t, h1.pt, h2⟩
theorem bt_not (ha : BT X a ta) : BT X (.UnaryOp .Not a pos) (mNot ta) := let ⟨t, h1, h2⟩ := ha; ⟨_, pt_not h1, st_not h2⟩
theorem be_one {op} (ha : BE X a ma) : BE X (.BoolOp op [a] pos) ma := let ⟨t, h1, h2⟩ := ha; ⟨_, pe_one h1, h2⟩
theorem be_and (ha : BE X a ma) (hb : BE X (.BoolOp .And (b :: rest) pos) mb) : BE X (.BoolOp .And (a :: b :: rest) pos) (mAndV ma mb) := let ⟨t, h1, h2⟩ := ha; let ⟨u, h3, h4⟩ := hb; ⟨_, pe_and h1 h3, se_andV h2 h4⟩
theorem be_not (ha : BE X a ma) : BE X (.UnaryOp .Not a pos) (mNotV ma) := let ⟨t, h1, h2⟩ := ha; ⟨_, pe_not h1, se_notV h2⟩
variable {es : List Expr} {ml : ML}
theorem bl_nil : BL X [] lNil := ⟨_, pa_nil, sl_nil⟩
theorem bl_cons (ha : BE X a ma) (hr : BL X es ml) (hs : starEach (a :: es) X.env = (false, eval a X.env) :: starEach es X.env := by rfl) : BL X (a :: es) (lCons ma ml) := let ⟨t, h1, h2⟩ := ha; let ⟨u, h3, h4⟩ := hr; ⟨_, pa_cons h1 h3 hs, sl_cons h2 h4⟩
theorem be_tup {k} (h : BL X es ml) : BE X (.Tuple es k pos) (mTup ml) := let ⟨t, h1, h2⟩ := h; ⟨_, pe_tup h1, se_tup h2⟩
theorem be_lst (h : BL X es ml) : BE X (.List es pos) (mLst ml) := let ⟨t, h1, h2⟩ := h; ⟨_, pe_lst h1, se_lst h2⟩
end
end Py
namespace L2
open PySem PySem.Spec PyProof.Rows
theorem tuple_mulS (l : Addr) (items : Array Value) (n : Nat) (dd : Option Addr) (sl : Array (Option Value)) (x : Int) (u : Tok) (c0 : (decide (x < -(2 ^ 63)) || decide (x ≥ 2 ^ 63)) = false) (c1 : (items.isEmpty || x == 1) = true) :
    Meets (Builtin.«tuple.__mul__» ⟨[.ref l, .int x u], []⟩) (fun _ R s => s.heap.get? l = some { cls := .type "tuple", dict := dd, data := .seq items n, slots := sl } ∧ R (.ok (.ret (.ref l))) s) :=
  .of_wp fun prog w A R s h => by
    obtain ⟨hp, g, d, tk, os⟩ := s
    obtain ⟨hl, h⟩ := h
    have f1 := AutoSeq1.idx_int
    wp_walk using wpAny_loadPart' hl
    repeat (first
      | (refine wpAny_ite_false (decide_eq_false (by rw [c0]; exact Bool.false_ne_true)) ?_; wp_walk using wpAny_loadPart' hl)
      | (refine wpAny_ite_true (decide_eq_true c1) ?_; wp_walk using wpAny_loadPart' hl))
    exact ⟨_, rfl, h⟩
theorem tuple_mulE (l : Addr) (items : Array Value) (n : Nat) (dd : Option Addr) (sl : Array (Option Value)) (x : Int) (u : Tok) (c0 : (decide (x < -(2 ^ 63)) || decide (x ≥ 2 ^ 63)) = false) (c1 : (items.isEmpty || x == 1) = false) (c2 : (decide (x ≤ 0) || items.isEmpty) = true) :
    Meets (Builtin.«tuple.__mul__» ⟨[.ref l, .int x u], []⟩) (fun _ R s => s.heap.get? l = some { cls := .type "tuple", dict := dd, data := .seq items n, slots := sl } ∧
      R (.ok (.ret (Value.ref s.heap.objs.size))) { s with heap := s.heap.push { cls := Value.type "tuple", data := Data.seq #[] }, toks := s.toks }) :=
  .of_wp fun prog w A R s h => by
    obtain ⟨hp, g, d, tk, os⟩ := s
    obtain ⟨hl, h⟩ := h
    have f1 := AutoSeq1.idx_int
    wp_walk using wpAny_loadPart' hl
    repeat (first
      | (refine wpAny_ite_false (decide_eq_false (by rw [c0]; exact Bool.false_ne_true)) ?_; wp_walk using wpAny_loadPart' hl)
      | (refine wpAny_ite_false (decide_eq_false (by rw [c1]; exact Bool.false_ne_true)) ?_; wp_walk using wpAny_loadPart' hl)
      | (refine wpAny_ite_true (decide_eq_true c2) ?_; wp_walk using wpAny_loadPart' hl))
    exact ⟨_, rfl, h⟩
def rRepS (K : PySem.W.Frag) : R2 := fun x y H Q => ∃ l k xs, x = .ref l ∧ y = .int k ∧ SqT K H l xs ∧ (xs = [] ∨ k = 1) ∧ -(2 ^ 62) < k ∧ k ≤ 1000 ∧ Q (.ref l) H
def rRepE (K : PySem.W.Frag) : R2 := fun x y H Q => ∃ l k xs, x = .ref l ∧ y = .int k ∧ SqT K H l xs ∧ xs ≠ [] ∧ -(2 ^ 62) < k ∧ k ≤ 0 ∧ ∀ p, H p = none → Q (.ref p) (upd H p (.tup []))
theorem op_repS {X : Cx} : OpR X (binaryOp .Mult) (rRepS X.K) := by
  intro pins s σ H x y v u Q I rx ry h
  obtain ⟨l, k, xs, rfl, rfl, hT, hne, h1, h2, q⟩ := h
  cases rx
  obtain ⟨t, rfl⟩ := ry
  obtain ⟨its, r, ⟨⟨cls, dd, data, sl⟩, ho, hc, n, hd⟩, hs⟩ := I.tuple hT
  simp only at hc hd
  subst hc hd
  have c0 : (decide (k < -(2 ^ 63)) || decide (k ≥ 2 ^ 63)) = false := by
    rw [decide_eq_false (by omega), decide_eq_false (by omega)] <;> rfl
  have c1 : (its.toArray.isEmpty || k == 1) = true := by
    rcases hne with e | e
    · subst e
      have : its = [] := List.eq_nil_of_length_eq_zero (by rw [← r.length]; rfl)
      subst this
      rfl
    · subst e
      simp
  refine wpAny_binaryOp_repeat_ref (T := "tuple") (U := "int") (by decide) ⟨_, ho, rfl⟩ (fun s' => typeIs_int s' k t) noFill_tuple_mul F.fills_int_mul F.slot_int_rmul repeat_tuple F.slot_int_index.lookup
    (call_meets F.slot_int_rmul (typeIs_int s k t) F.entry_int_rmul (F.args_int_rmul_2 _ _) (int_rmul_tuple k t l its.toArray n dd sl)
      ⟨ho, rfl, ⟨_, ho, rfl⟩, call_meets F.slot_tuple_mul ⟨_, ho, rfl⟩ F.entry_tuple_mul (F.args_tuple_mul_2 _ _) (tuple_mulS l its.toArray n dd sl k t c0 c1) ⟨ho, ?_⟩⟩)
  exact ⟨.ref l, H, I, rfl, q⟩
theorem op_repE {X : Cx} : OpR X (binaryOp .Mult) (rRepE X.K) := by
  intro pins s σ H x y v u Q I rx ry h
  obtain ⟨l, k, xs, rfl, rfl, hT, hne, h1, h2, q⟩ := h
  cases rx
  obtain ⟨t, rfl⟩ := ry
  obtain ⟨its, r, ⟨⟨cls, dd, data, sl⟩, ho, hc, n, hd⟩, hs⟩ := I.tuple hT
  simp only at hc hd
  subst hc hd
  have hle : its.length = xs.length := r.length.symm
  have hn : its ≠ [] := fun e => hne (by
    rw [e] at hle
    exact List.eq_nil_of_length_eq_zero hle.symm)
  have hi : its.toArray.isEmpty = false := by
    cases its with
    | nil => exact absurd rfl hn
    | cons a b => rfl
  have c0 : (decide (k < -(2 ^ 63)) || decide (k ≥ 2 ^ 63)) = false := by
    rw [decide_eq_false (by omega), decide_eq_false (by omega)] <;> rfl
  have c1 : (its.toArray.isEmpty || k == 1) = false := by
    rw [hi, Bool.false_or]
    exact beq_eq_false_iff_ne.mpr (by omega)
  have c2 : (decide (k ≤ 0) || its.toArray.isEmpty) = true := by
    rw [decide_eq_true h2]
    rfl
  refine wpAny_binaryOp_repeat_ref (T := "tuple") (U := "int") (by decide) ⟨_, ho, rfl⟩ (fun s' => typeIs_int s' k t) noFill_tuple_mul F.fills_int_mul F.slot_int_rmul repeat_tuple F.slot_int_index.lookup
    (call_meets F.slot_int_rmul (typeIs_int s k t) F.entry_int_rmul (F.args_int_rmul_2 _ _) (int_rmul_tuple k t l its.toArray n dd sl)
      ⟨ho, rfl, ⟨_, ho, rfl⟩, call_meets F.slot_tuple_mul ⟨_, ho, rfl⟩ F.entry_tuple_mul (F.args_tuple_mul_2 _ _) (tuple_mulE l its.toArray n dd sl k t c0 c1 c2) ⟨ho, ?_⟩⟩)
  refine ⟨.ref s.heap.objs.size, _, I.laid (t' := s.toks) (o := .tup []) (fun b ob q => Heap.get?_push_of_some _ q) (Nat.le_refl _) ?_, rfl, q _ (I.hok.fresh (Nat.le_refl _))⟩
  exact ⟨by rw [sizeLine_eq]; exact Nat.zero_le _, [], .nil, IsTup.new _ _⟩
end L2
/-! Py3: operators and built-ins by contents. -/
namespace Py
open PySem PySem.Spec PyProof.Rows L2

/-- a division of any size has room -/
structure DivOk (X : Cx) : Prop where
  seer : X.base.NoSeer
  tree : X.prog.given.tree = none
  deep : X.A.depth + Builtin.pylongFrames < recursionLimit
  top : ∃ env l, X.stack = env :: l ∧ env.scope.isGenerator = false ∧ env.scope.isCoroutine = false ∧ env.builtins = builtinsNs ∧ env.globals = mainGlobals
theorem DivOk.room {X : Cx} (D : DivOk X) {pins : List (Addr × Obj)} {σ : L2.St} {H : Hp} {s : Shared} (I : Inv X pins σ H s) : PylongRoom (model X.prog X.w) X.A s := by
  obtain ⟨env, l, e, h1, h2, h3, h4⟩ := D.top
  exact PylongRoom.of I.nolimit D.deep (SeerAt.of (D.seer.keeps I.bk) D.tree (by rw [I.ok.frames, e]) h1 h2 h3 h4)

section
variable {K : PySem.W.Frag} {Hf H Hf' H' : Hp} {X : Cx}
/-- a value that is there already -/
theorem old {v : PV} {u : V} {Q : VK} (e : Ex Hf H) (d : Dp K Hf u v) (q : ∀ u Hf' H', Step Nobody Hf H Hf' H' → RepR K Hf' H' H [] (.val v) u → Q u H') : Q u H := q u Hf H (.refl e) d
theorem newL {us : List V} {vs : List PV} {Q : VK} (e : Ex Hf H) (d : DpAll K Hf us vs) (q : ∀ u Hf' H', Step Nobody Hf H Hf' H' → RepR K Hf' H' H [] (.new (.lst vs)) u → Q u H') : ∀ p, H p = none → Q (.ref p) (upd H p (.lst us)) := fun p hp => by
  obtain ⟨S, fp⟩ := new_ob (o := .lst us) e hp
  exact q _ _ _ S ⟨p, rfl, hp, fp, us, upd_same, d⟩
theorem newT {us : List V} {vs : List PV} {Q : VK} (e : Ex Hf H) (d : DpAll K Hf us vs) (q : ∀ u Hf' H', Step Nobody Hf H Hf' H' → RepR K Hf' H' H [] (.val (.tuple vs)) u → Q u H') : ∀ p, H p = none → Q (.ref p) (upd H p (.tup us)) := fun p hp => by
  obtain ⟨S, d'⟩ := new_tup e d hp
  exact q _ _ _ S d'
theorem opB_int : ∀ {fn : Value → Value → Sem Value} {C : Int → Int → Prop} {g : Int → Int → V} {f : Ct → Ct → Option R}, OpR X fn (rI C g) →
    (∀ c d z, f c d = some z → ∃ i j v, c = .pv (.int i) ∧ d = .pv (.int j) ∧ C i j ∧ z = .val v ∧ ∀ Hf, Dp X.K Hf (g i j) v) → OpB X fn f := fun h hf => ⟨_, h, fun Hf H c d x y z e hc hd e5 Q q => by
  obtain ⟨i, j, v, rfl, rfl, hC, rfl, hv⟩ := hf c d z e5
  cases hc
  cases hd
  exact ⟨i, j, rfl, rfl, hC, old e (hv Hf) q⟩⟩
theorem opB_int0 {fn : Value → Value → Sem Value} {g : Int → Int → V} {f : Ct → Ct → Option R} (h : OpR X fn (rI0 g))
    (hf : ∀ c d z, f c d = some z → ∃ i j v, c = .pv (.int i) ∧ d = .pv (.int j) ∧ z = .val v ∧ ∀ Hf, Dp X.K Hf (g i j) v) : OpB X fn f := ⟨_, h, fun Hf H c d x y z e hc hd e5 Q q => by
  obtain ⟨i, j, v, rfl, rfl, rfl, hv⟩ := hf c d z e5
  cases hc
  cases hd
  exact ⟨i, j, rfl, rfl, old e (hv Hf) q⟩⟩
theorem cI_some {p : Int → Int → Bool} {c d : Ct} {z : R} (h : cI p c d = some z) : ∃ i j v, c = .pv (.int i) ∧ d = .pv (.int j) ∧ z = .val v ∧ ∀ Hf, Dp K Hf (.bl (p i j)) v := by
  unfold cI at h
  split at h
  · cases h; exact ⟨_, _, _, rfl, rfl, rfl, fun _ => .bl _⟩
  · cases h
theorem ob_lt : OpB X (compareOp .Lt) fLt := opB_int0 op_lt fun _ _ _ h => cI_some h
theorem ob_gt : OpB X (compareOp .Gt) fGt := opB_int0 op_gt fun _ _ _ h => cI_some h
theorem ob_ge : OpB X (compareOp .GtE) fGe := opB_int0 op_ge fun _ _ _ h => cI_some h
theorem ob_sub : OpB X (binaryOp .Sub) fSub := opB_int0 op_sub fun c d z h => by
  unfold fSub at h
  split at h
  · cases h; exact ⟨_, _, _, rfl, rfl, rfl, fun _ => .int _⟩
  · cases h
def rAddAll (K : PySem.W.Frag) : R2 := fun x y H Q => rI0 (fun i j => .int (i + j)) x y H Q ∨ (∃ i j, x = .str i ∧ y = .str j ∧ i.length + j.length ≤ sizeLine ∧ Q (.str (i ++ j)) H) ∨ rCatA K x y H Q ∨ rCat x y H Q
theorem add_all {fn : Value → Value → Sem Value} (h1 : OpR X fn (rI0 fun i j => .int (i + j))) (h2 : OpR X fn (fun x y H Q => ∃ i j, x = .str i ∧ y = .str j ∧ i.length + j.length ≤ sizeLine ∧ Q (.str (i ++ j)) H)) (h3 : OpR X fn (rCatA X.K)) (h4 : OpR X fn rCat) :
    OpR X fn (rAddAll X.K) := h1.or (h2.or (h3.or h4))
theorem add_S : OpS K (rAddAll K) fAdd := fun Hf H c d x y z e hc hd e5 Q q => by
  unfold fAdd at e5
  split at e5
  · cases e5; cases hc; cases hd; exact .inl ⟨_, _, rfl, rfl, old e (.int _) q⟩
  · split at e5
    · rename_i hz; cases e5; cases hc; cases hd; exact .inr (.inl ⟨_, _, rfl, rfl, by rw [← line_eq]; exact hz, old e (.str _) q⟩)
    · cases e5
  · rename_i xs ys
    split at e5
    · rename_i hz
      cases e5
      cases hc with
      | @tup a us _ hs ha =>
        cases hd with
        | @tup b ws _ hs2 hb =>
          refine .inr (.inr (.inl ⟨a, b, us, ws, rfl, rfl, ex_t e hs, ex_t e hs2, by rw [dps_len ha, dps_len hb, ← line_eq]; exact hz, fun h0 => ?_, fun _ h0 => ?_, fun _ _ => newT e (dps_app ha hb) q⟩))
          · have e0 : xs = [] := List.eq_nil_of_length_eq_zero (by rw [← dps_len ha, h0]; rfl)
            rw [e0] at q
            exact old e (.tup hs2 hb) q
          · have e0 : ys = [] := List.eq_nil_of_length_eq_zero (by rw [← dps_len hb, h0]; rfl)
            rw [e0, List.append_nil] at q
            exact old e (.tup hs ha) q
    · cases e5
  · rename_i xs ys
    split at e5
    · rename_i hz
      cases e5
      obtain ⟨a, rfl, us, h1, d1⟩ := hc
      obtain ⟨b, rfl, ws, h2, d2⟩ := hd
      exact .inr (.inr (.inr ⟨a, b, us, ws, rfl, rfl, h1, h2, by rw [dps_len d1, dps_len d2, ← line_eq]; exact hz, newL e (dps_app d1 d2) q⟩))
    · cases e5
  all_goals cases e5
theorem ob_add : OpB X (binaryOp .Add) fAdd := ⟨_, add_all op_add op_add_str op_catA op_cat, add_S⟩
theorem mulOk_ok {i j : Int} (h : mulOk i j = true) : IntMulOk i j := by
  have h' : i.natAbs.log2 + j.natAbs.log2 < 100000000 := of_decide_eq_true h
  have b : ∀ x : Int, Builtin.Int.intBits x ≤ x.natAbs.log2 + 1 := fun x => by
    unfold Builtin.Int.intBits
    split <;> omega
  have h1 := b i
  have h2 := b j
  have e : bitsLine = 134217728 := by decide
  unfold IntMulOk
  intro z
  have z2 := (Bool.and_eq_true_iff.mp z).2
  unfold Builtin.Int.intTooBig at z2
  have z3 := of_decide_eq_true z2
  rw [e] at z3
  omega
theorem op_mulB : OpR X (binaryOp .Mult) (rI (fun i j => mulOk i j = true) fun i j => .int (i * j)) := opI fun _ _ _ _ _ _ _ hc q => mul_int q (mulOk_ok hc)
theorem mul_S : OpS K (fun x y H Q => rI (fun i j => mulOk i j = true) (fun i j => .int (i * j)) x y H Q ∨ rRep x y H Q ∨ rRepT K x y H Q ∨ rRepS K x y H Q ∨ rRepE K x y H Q) fMul := fun Hf H c d x y z e hc hd e5 Q q => by
  unfold fMul at e5
  split at e5
  · split at e5
    · rename_i hz; cases e5; cases hc; cases hd; exact .inl ⟨_, _, rfl, rfl, hz, old e (.int _) q⟩
    · cases e5
  · rename_i xs k
    split at e5
    · rename_i hz
      cases e5
      cases hd
      have hc' := hc
      cases hc with
      | @tup a us _ hs ha =>
        by_cases h1 : xs = [] ∨ k = 1
        · have eq : (List.replicate k.toNat xs).flatten = xs := by
            rcases h1 with h1 | h1
            · subst h1; simp
            · subst h1; simp
          rw [eq] at q
          refine .inr (.inr (.inr (.inl ⟨a, k, us, rfl, rfl, ex_t e hs, ?_, hz.1, hz.2.1, old e hc' q⟩)))
          rcases h1 with h1 | h1
          · left
            subst h1
            exact List.eq_nil_of_length_eq_zero (by rw [dps_len ha]; rfl)
          · exact .inr h1
        · have hne : us ≠ [] := fun z => h1 (.inl (List.eq_nil_of_length_eq_zero (by rw [← dps_len ha, z]; rfl)))
          by_cases h2 : 2 ≤ k
          · exact .inr (.inr (.inl ⟨a, k, us, rfl, rfl, ex_t e hs, hne, h2, hz.2.1, by rw [dps_len ha]; exact hz.2.2, newT e (dps_rep ha _) q⟩))
          · have h3 : k ≤ 0 := by
              have : k ≠ 1 := fun e => h1 (.inr e)
              omega
            have eq : (List.replicate k.toNat xs).flatten = [] := by
              have : k.toNat = 0 := by omega
              rw [this]; rfl
            rw [eq] at q
            exact .inr (.inr (.inr (.inr ⟨a, k, us, rfl, rfl, ex_t e hs, hne, hz.1, h3, newT e .nil q⟩)))
    · cases e5
  · rename_i xs k
    split at e5
    · rename_i hz
      cases e5
      obtain ⟨a, rfl, us, h1, d1⟩ := hc
      cases hd
      exact .inr (.inl ⟨a, k, us, rfl, rfl, h1, by omega, by omega, by rw [dps_len d1, ← line_eq]; exact hz.1, newL e (dps_rep d1 _) q⟩)
    · cases e5
  all_goals cases e5
theorem ob_mul : OpB X (binaryOp .Mult) fMul := ⟨_, op_mulB.or (op_rep.or (op_repT.or (op_repS.or op_repE))), mul_S⟩
theorem op_divB (D : DivOk X) : OpR X (binaryOp .FloorDiv) (rI (fun _ j => j ≠ 0) fun i j => .int (i.fdiv j)) := by
  intro pins s σ H x y v u Q I rx ry h
  obtain ⟨i, j, rfl, rfl, hc, q⟩ := h
  obtain ⟨t, rfl⟩ := rx
  obtain ⟨t', rfl⟩ := ry
  exact floordiv_int hc ⟨.int (i.fdiv j), H, I.tok _, ⟨_, rfl⟩, q⟩ (.inr (D.room I))
theorem div_some {c d : Ct} {z : R} (h : fDiv c d = some z) : ∃ i j v, c = .pv (.int i) ∧ d = .pv (.int j) ∧ j ≠ 0 ∧ z = .val v ∧ ∀ Hf, Dp K Hf (.int (i.fdiv j)) v := by
  unfold fDiv at h
  split at h
  · split at h
    · cases h
    · rename_i hj; cases h; exact ⟨_, _, _, rfl, rfl, hj, rfl, fun _ => .int _⟩
  · cases h
theorem ob_div (D : DivOk X) : OpB X (binaryOp .FloorDiv) fDiv := opB_int (op_divB D) fun _ _ _ h => div_some h
theorem ob_mod : OpB X (binaryOp .Mod) fMod := opB_int op_modN fun c d z h => by
  unfold fMod at h
  split at h
  · split at h
    · cases h
    · rename_i hj; cases h; exact ⟨_, _, _, rfl, rfl, hj, rfl, fun _ => .int _⟩
  · cases h
theorem ob_pow : OpB X (binaryOp .Pow) fPow := opB_int op_pow fun c d z h => by
  unfold fPow at h
  split at h
  · split at h
    · rename_i hj; cases h; exact ⟨_, _, _, rfl, rfl, hj, rfl, fun _ => .int _⟩
    · cases h
  · cases h
/-! ### == -/
theorem eqD_S {neg : Bool} : OpS K (fun x y H Q => (if neg then rNe else rEq) x y H Q ∨ (if neg then rNeD K else rEqD K) x y H Q) (eqD neg) := fun Hf H c d x y z e hc hd e5 Q q => by
  unfold eqD at e5
  have sc : ∀ {a b : V} {k : Bool}, scal a b = true → decide (a = b) = k → (∀ u Hf' H', Step Nobody Hf H Hf' H' → RepR K Hf' H' H [] (.val (.bool (neg ^^ k))) u → Q u H') → (if neg then rNe else rEq) a b H Q := fun {a b k} h1 h2 q => by
    cases neg with
    | true => exact ⟨h1, by rw [h2]; have := old e (.bl (true ^^ k)) q; simpa using this⟩
    | false => exact ⟨h1, by rw [h2]; have := old e (.bl (false ^^ k)) q; simpa using this⟩
  split at e5
  · cases e5; cases hc; cases hd; exact .inl (sc rfl (by simp) q)
  · cases e5; cases hc; cases hd; exact .inl (sc rfl dec_bl q)
  · cases e5; cases hc; cases hd; exact .inl (sc rfl (by simp) q)
  · split at e5
    · rename_i hz
      cases e5
      refine .inr ?_
      cases neg with
      | true => exact ⟨_, _, dp_mono e _ _ hc, dp_mono e _ _ hd, hz.1, hz.2, by have := old e (.bl _) q; simpa using this⟩
      | false => exact ⟨_, _, dp_mono e _ _ hc, dp_mono e _ _ hd, hz.1, hz.2, by have := old e (.bl _) q; simpa using this⟩
    · cases e5
  · cases e5
theorem ob_eq (hu : X.A.units + 64 < cLine) : OpB X (compareOp .Eq) fEq := ⟨_, op_eq.or (op_eqD hu), eqD_S (neg := false)⟩
theorem ob_ne (hu : X.A.units + 64 < cLine) : OpB X (compareOp .NotEq) fNe := ⟨_, op_ne.or (op_neD hu), eqD_S (neg := true)⟩
theorem isNone_of {v : PV} {u : V} (d : Dp K Hf u v) : decide (u = .non) = isNone v := by
  cases d <;> rfl
theorem is_S {neg : Bool} : OpS K (fun x y H Q => y = .non ∧ Q (.bl (neg ^^ decide (x = .non))) H) (fIs neg) := fun Hf H c d x y z e hc hd e5 Q q => by
  unfold fIs at e5
  split at e5
  · cases e5
    cases hd
    refine ⟨rfl, ?_⟩
    rw [isNone_of hc]
    exact old e (.bl _) q
  · cases e5
    cases hd
    obtain ⟨p, rfl, _⟩ := hc
    refine ⟨rfl, ?_⟩
    have := old e (.bl neg) q
    simpa using this
  · cases e5
theorem ob_is : OpB X (compareOp .Is) (fIs false) := by
  refine ⟨_, ?_, is_S⟩
  have h := op_isN (X := X)
  intro pins s σ H x y v u Q I rx ry hq
  exact h pins s σ H x y v u Q I rx ry ⟨hq.1, by simpa using hq.2⟩
/-! ### one place -/
theorem be_neg {a : Expr} {ma : M} {pos : Pos} (ha : BE X a ma) : BE X (.UnaryOp .USub a pos) (mUn fNeg ma) := by
  obtain ⟨t, h1, h2⟩ := ha
  refine ⟨_, pe_un un_neg h1, se_un h2 fun Hf H c x z e hc e5 Q q => ?_⟩
  unfold fNeg at e5
  split at e5
  · cases e5; cases hc; exact ⟨_, rfl, old e (.int _) q⟩
  · cases e5
/-- a built-in of one argument -/
theorem se_call1 {te : TE} {m : M} {r : List V → Hp → VK → Prop} {f : Ct → Option R} (ha : SE K te m) (hr : UnS K (fun x H Q => r [x] H Q) f) : SE K (tCB r (tCons te tNil)) (mUn f m) := se_un ha hr
theorem se_call2 {te tu : TE} {m n : M} {r : List V → Hp → VK → Prop} {f : Ct → Ct → Option R} (ha : SE K te m) (hb : SE K tu n) (hr : OpS K (fun x y H Q => r [x, y] H Q) f) : SE K (tCB r (tCons te (tCons tu tNil))) (mOp f m n) := se_op ha hb hr
structure C1 (X : Cx) (f : Value) (g : Ct → Option R) : Prop where
  ex : ∃ r, CallR X f r ∧ UnS X.K (fun x H Q => r [x] H Q) g
structure C2 (X : Cx) (f : Value) (g : Ct → Ct → Option R) : Prop where
  ex : ∃ r, CallR X f r ∧ OpS X.K (fun x y H Q => r [x, y] H Q) g
variable {a b : Expr} {ma mb : M} {x : Str} {p pos : Pos} {id : String} {g : Ct → Option R} {g2 : Ct → Ct → Option R}
theorem be_b1 (hc : C1 X (.builtin id) g) (hg : Gl X x) (hm : X.mg x = none) (hv : bootBuiltins x = some (.builtin id)) (ha : BE X a ma) (hn : x ≠ "__name__" := by decide) (hdb : (x == ("__debug__" : Str)) = false := by decide)
    (hs : starEach [a] X.env = (false, eval a X.env) :: starEach [] X.env := by rfl) (hp : (backTo pos (starEach [] X.env)).any (·.1) = false := by rfl) : BE X (.Call (.Name x p) [a] [] pos) (mUn g ma) := by
  obtain ⟨r, h1, h2⟩ := hc
  obtain ⟨t, a1, a2⟩ := ha
  exact ⟨_, pe_callB h1 hg hm hv (pa_cons a1 pa_nil hs) hn hdb hs hp, se_call1 a2 h2⟩
theorem be_t1 {T : String} (hc : C1 X (.type T) g) (hg : Gl X x) (hm : X.mg x = none) (hv : bootBuiltins x = some (.type T)) (ha : BE X a ma) (hn : x ≠ "__name__" := by decide) (hdb : (x == ("__debug__" : Str)) = false := by decide)
    (hs : starEach [a] X.env = (false, eval a X.env) :: starEach [] X.env := by rfl) (hp : (backTo pos (starEach [] X.env)).any (·.1) = false := by rfl) : BE X (.Call (.Name x p) [a] [] pos) (mUn g ma) := by
  obtain ⟨r, h1, h2⟩ := hc
  obtain ⟨t, a1, a2⟩ := ha
  exact ⟨_, pe_callTy h1 hg hm hv (pa_cons a1 pa_nil hs) hn hdb hs hp, se_call1 a2 h2⟩
/-- gcd, imported -/
theorem be_gcd (hg : Gl X x) (hm : X.mg x = some (.builtin "math.gcd")) (ha : BE X a ma) (hb : BE X b mb) (hdb : (x == ("__debug__" : Str)) = false := by decide)
    (hs : starEach [a, b] X.env = (false, eval a X.env) :: starEach [b] X.env := by rfl) (hs2 : starEach [b] X.env = (false, eval b X.env) :: starEach [] X.env := by rfl) (hp : (backTo pos (starEach [b] X.env)).any (·.1) = false := by rfl) : BE X (.Call (.Name x p) [a, b] [] pos) (mOp fGcd ma mb) := by
  obtain ⟨t, a1, a2⟩ := ha
  obtain ⟨u, b1, b2⟩ := hb
  refine ⟨_, pe_callBfun cr_gcd hg hm (pa_cons a1 (pa_cons b1 pa_nil hs2) hs) hdb hs hp, se_call2 a2 b2 fun Hf H c d x y z e hc hd e5 Q q => ?_⟩
  unfold fGcd at e5
  split at e5
  · cases e5; cases hc; cases hd; exact ⟨_, _, rfl, old e (.int _) q⟩
  · cases e5

theorem c_len : C1 X (.builtin "len") fLen := ⟨_, call_len, fun Hf H c x z e hc e5 Q q => by
  unfold fLen at e5
  split at e5
  · cases e5; cases hc with | tup hs ha => exact ⟨_, _, rfl, .inr ⟨_, ex_t e hs, rfl⟩, by rw [dps_len ha]; exact old e (.int _) q⟩
  · cases e5; cases hc with | lst hs ha => exact ⟨_, _, rfl, .inl ⟨_, ex_l e hs, rfl⟩, by rw [dps_len ha]; exact old e (.int _) q⟩
  · split at e5
    · rename_i hz; cases e5; cases hc; exact ⟨_, _, rfl, ⟨by rw [← line_eq]; exact hz, rfl⟩, old e (.int _) q⟩
    · cases e5
  · cases e5; obtain ⟨a, rfl, us, h1, d1⟩ := hc; exact ⟨_, _, rfl, .inl ⟨_, SqL.of h1, rfl⟩, by rw [dps_len d1]; exact old e (.int _) q⟩
  · cases e5⟩
theorem c_int : C1 X (.type "int") fInt := ⟨_, call_int1, fun Hf H c x z e hc e5 Q q => by
  unfold fInt at e5
  split at e5
  · cases e5; cases hc; exact .inl ⟨_, rfl, old e (.int _) q⟩
  · cases e5; cases hc; exact .inr ⟨_, rfl, old e (.int _) q⟩
  · cases e5⟩
theorem abs_if (i : Int) : (if i < 0 then -i else i) = (i.natAbs : Int) := by split <;> omega
theorem c_abs : C1 X (.builtin "abs") fAbs := ⟨_, call_abs, fun Hf H c x z e hc e5 Q q => by
  unfold fAbs at e5
  split at e5
  · cases e5; cases hc; exact ⟨_, rfl, by rw [abs_if]; exact old e (.int _) q⟩
  · cases e5⟩
theorem c_tuple : C1 X (.type "tuple") fTuple := ⟨_, call_tuple_of, fun Hf H c x z e hc e5 Q q => by
  unfold fTuple at e5
  split at e5
  · cases e5; cases hc with | tup hs ha => exact ⟨_, _, rfl, .inr ⟨ex_t e hs, old e (.tup hs ha) q⟩⟩
  · cases e5; cases hc with | lst hs ha => exact ⟨_, _, rfl, .inl ⟨ex_l e hs, newT e ha q⟩⟩
  · cases e5; obtain ⟨a, rfl, us, h1, d1⟩ := hc; exact ⟨_, _, rfl, .inl ⟨SqL.of h1, newT e d1 q⟩⟩
  · cases e5⟩
theorem c_list : C1 X (.type "list") fList := ⟨_, call_list_of, fun Hf H c x z e hc e5 Q q => by
  unfold fList at e5
  split at e5
  · cases e5; cases hc with | tup hs ha => exact ⟨_, _, rfl, .inr (ex_t e hs), newL e ha q⟩
  · cases e5; cases hc with | lst hs ha => exact ⟨_, _, rfl, .inl (ex_l e hs), newL e ha q⟩
  · cases e5; obtain ⟨a, rfl, us, h1, d1⟩ := hc; exact ⟨_, _, rfl, .inl (SqL.of h1), newL e d1 q⟩
  · cases e5⟩
/-! lists of ints, of bools -/
theorem lst_ok {c : Ct} {xs : List PV} {u : V} (e : Ex Hf H) (hc : RepC K Hf H c u) (h : c.lst? = some xs) : ∃ a us, u = .ref a ∧ SqL K H a us ∧ DpAll K Hf us xs := by
  unfold Ct.lst? at h
  split at h
  · cases h; cases hc with | lst hs ha => exact ⟨_, _, rfl, ex_l e hs, ha⟩
  · cases h; obtain ⟨a, rfl, us, h1, d1⟩ := hc; exact ⟨_, _, rfl, SqL.of h1, d1⟩
  · cases h
theorem ints_ok : ∀ {xs : List PV} {ns : List Int} {us : List V}, ints? xs = some ns → DpAll K Hf us xs → us = ns.map V.int
  | [], ns, us, h, d => by cases d; simp [ints?] at h; subst h; rfl
  | x :: xs, ns, us, h, d => by
    simp only [ints?, List.mapM_cons, Option.bind_eq_bind, Option.bind_eq_some_iff, Option.pure_def, Option.some.injEq] at h
    obtain ⟨n, h1, ms, h2, rfl⟩ := h
    cases d with
    | cons d1 d2 =>
      unfold intV? at h1
      split at h1
      · cases h1; cases d1; rw [ints_ok (ns := ms) h2 d2]; rfl
      · cases h1
theorem dps_ints : ∀ ns : List Int, DpAll K Hf (ns.map V.int) (ns.map PyData.int)
  | [] => .nil
  | n :: ns => .cons (.int n) (dps_ints ns)
theorem c_sum (hc : X.calm = true) : C1 X (.builtin "sum") fSum := ⟨_, cr_sum hc, fun Hf H c x z e hc e5 Q q => by
  simp only [fSum, Option.bind_eq_some_iff, Option.map_eq_some_iff] at e5
  obtain ⟨xs, h1, ns, h2, rfl⟩ := e5
  obtain ⟨a, us, rfl, hs, d⟩ := lst_ok e hc h1
  rw [ints_ok h2 d] at hs
  exact ⟨a, ns, rfl, hs, old e (.int _) q⟩⟩
/-! isinstance -/
def Ty.nm : Ty → String
  | .bool => "bool" | .int => "int" | .str => "str" | .tuple => "tuple"
theorem ty_tup {a : Addr} {us : List V} (h : SqT K H a us) : TyX K H (.ref a) (.type "tuple") := by
  rcases h with (h | ⟨o, h⟩) | ⟨o, its, n, h1, h2, _⟩
  · exact .base (.tup h)
  · exact .fTuple h
  · exact .kTuple h1 h2
theorem ty_lst {a : Addr} {us : List V} (h : SqL K H a us) : TyX K H (.ref a) (.type "list") := by
  rcases h with (h | ⟨o, h⟩) | ⟨o, its, n, h1, h2, _⟩
  · exact .base (.lst h)
  · exact .base (.frz h)
  · exact .kList h1 h2
def tyNm : PV → String
  | .none => "NoneType" | .bool _ => "bool" | .int _ => "int" | .str _ => "str" | .list _ => "list" | .tuple _ => "tuple" | .dict _ => "dict"
theorem kit_v (t : Ty) (v : PV) : PySem.W.kitOne K (.type (tyNm v)) (.type t.nm) = some (isTy t v) := by
  cases t <;> cases v <;> (refine kit_ty ?_; dsimp only [tyNm, Ty.nm, isTy]; decide +kernel)
theorem kit_l (t : Ty) : PySem.W.kitOne K (.type "list") (.type t.nm) = some false := by cases t <;> exact kit_ty (by decide +kernel)
theorem ty_v {v : PV} {u : V} (d : Dp K H u v) : TyX K H u (.type (tyNm v)) := by
  cases d with
  | non => exact .base .non
  | bl b => exact .base (.bl b)
  | int i => exact .base (.int i)
  | str x => exact .base (.str x)
  | lst h _ => exact ty_lst h
  | tup h _ => exact ty_tup h
theorem isi_S {t : Ty} : UnS K (fun x H Q => rIsi K [x, .ty t.nm] H Q) (fIsi t) := fun Hf H c x z e hc e5 Q q => by
  unfold fIsi at e5
  split at e5
  · cases e5
    exact ⟨x, _, _, _, _, rfl, .ty _, ty_v (dp_mono e _ _ hc), kit_v t _, old e (.bl _) q⟩
  · cases e5
    obtain ⟨p, rfl, vs, h1, _⟩ := hc
    exact ⟨_, _, _, _, _, rfl, .ty _, .base (.lst h1), kit_l t, old e (.bl _) q⟩
  · cases e5
/-- isinstance(e, T) -/
theorem be_isi (t : Ty) {y : Str} {p' : Pos} (hg : Gl X x) (hm : X.mg x = none) (hv : bootBuiltins x = some (.builtin "isinstance")) (hg' : Gl X y) (hm' : X.mg y = none) (hv' : bootBuiltins y = some (.type t.nm)) (ha : BE X a ma) (hn : x ≠ "__name__" := by decide) (hdb : (x == ("__debug__" : Str)) = false := by decide)
    (hn' : y ≠ "__name__" := by decide) (hdb' : (y == ("__debug__" : Str)) = false := by decide)
    (hs : starEach [a, .Name y p'] X.env = (false, eval a X.env) :: starEach [.Name y p'] X.env := by rfl) (hs2 : starEach [.Name y p'] X.env = (false, eval (.Name y p') X.env) :: starEach [] X.env := by rfl) (hp : (backTo pos (starEach [.Name y p'] X.env)).any (·.1) = false := by rfl) :
    BE X (.Call (.Name x p) [a, .Name y p'] [] pos) (mUn (fIsi t) ma) := by
  obtain ⟨te, a1, a2⟩ := ha
  exact ⟨_, pe_callB call_isi hg hm hv (pa_cons a1 (pa_cons (pe_bltn (v := .ty t.nm) hg' hm' hv' rfl hn' hdb') pa_nil hs2) hs) hn hdb hs hp, se_un a2 isi_S⟩

/-! ### items, slices -/
theorem ixN_eq (n : Nat) (i : Int) : ixN n i = L2.ixN n i := rfl
theorem at_ok {xs : List PV} {us : List V} {i : Int} {v : PV} (d : DpAll K Hf us xs) (h : atI xs i = some v) : ∃ u, L2.atI us i = some u ∧ Dp K Hf u v := by
  unfold atI at h
  rw [Option.bind_eq_some_iff] at h
  obtain ⟨j, h1, h2⟩ := h
  obtain ⟨u, h3, h4⟩ := dps_get d h2
  refine ⟨u, ?_, h4⟩
  unfold L2.atI
  rw [dps_len d, ← ixN_eq, h1]
  exact h3
theorem ix_S : OpS K (rIx K) fIx := fun Hf H c d x y z e hc hd e5 Q q => by
  unfold fIx at e5
  split at e5
  · rw [Option.map_eq_some_iff] at e5
    obtain ⟨v, h1, rfl⟩ := e5
    cases hd
    cases hc with
    | tup hs ha =>
      obtain ⟨u, h2, h3⟩ := at_ok ha h1
      exact .inr (.inl ⟨_, _, _, u, rfl, rfl, ex_t e hs, h2, old e h3 q⟩)
  · rw [Option.map_eq_some_iff] at e5
    obtain ⟨v, h1, rfl⟩ := e5
    cases hd
    cases hc with
    | lst hs ha =>
      obtain ⟨u, h2, h3⟩ := at_ok ha h1
      exact .inl ⟨_, _, _, u, rfl, rfl, ex_l e hs, h2, old e h3 q⟩
  · rw [Option.map_eq_some_iff] at e5
    obtain ⟨v, h1, rfl⟩ := e5
    cases hd
    obtain ⟨p, rfl, us, h4, ha⟩ := hc
    obtain ⟨u, h2, h3⟩ := at_ok ha h1
    exact .inl ⟨_, _, _, u, rfl, rfl, SqL.of h4, h2, old e h3 q⟩
  · split at e5
    · rename_i hz
      rw [Option.map_eq_some_iff] at e5
      obtain ⟨v, h1, rfl⟩ := e5
      cases hc
      cases hd
      refine .inr (.inr ⟨_, _, v, rfl, rfl, by rw [← line_eq]; exact hz, ?_, old e (.str _) q⟩)
      unfold L2.atI
      rw [Option.bind_eq_some_iff] at h1 ⊢
      obtain ⟨j, h2, h3⟩ := h1
      exact ⟨j, h2, by simpa using h3⟩
    · cases e5
  · cases e5
theorem be_ix (ha : BE X a ma) (hb : BE X b mb) (hs : PlainIx b := by intro _ _; rfl) : BE X (.Subscript a b pos) (mOp fIx ma mb) := by
  obtain ⟨t, a1, a2⟩ := ha
  obtain ⟨u, b1, b2⟩ := hb
  exact ⟨_, pe_ix ix_seq a1 b1 hs, se_op a2 b2 ix_S⟩
structure BO (X : Cx) (e : Option Expr) (m : MO) : Prop where
  ex : ∃ t, PO X e t ∧ ∀ (ρ : Env) (r : Option Int) (ρ' : Env) (σ : L2.St) (Hf H : Hp), m ρ = some (r, ρ') → RepE X.K Hf H ρ σ → ∀ Q : Option Int → Hp → Prop,
    (∀ Hf' H', Step (Own ρ σ) Hf H Hf' H' → RepE X.K Hf' H' ρ' σ → Kp ρ ρ' → Q r H') → t σ H Q
theorem bo_none : BO X none oNone := ⟨_, po_none, fun ρ r ρ' σ Hf H hm E Q q => by cases hm; exact q Hf H (.refl E.ff) E .refl⟩
theorem bo_some (ha : BE X a ma) : BO X (some a) (oSome ma) := by
  obtain ⟨t, a1, a2⟩ := ha
  refine ⟨_, po_some a1, fun ρ r ρ' σ Hf H hm E Q q => ?_⟩
  simp only [oSome, Option.bind_eq_some_iff, Option.map_eq_some_iff, Prod.mk.injEq] at hm
  obtain ⟨⟨x, ρ1⟩, e1, c, e3, i, e5, rfl, rfl⟩ := hm
  refine a2 ρ x ρ1 σ Hf H e1 E _ fun u Hf1 H1 S1 E1 R1 k1 => ?_
  have hc := look_ok E1 R1 e3
  unfold intOf at e5
  split at e5
  · cases e5; cases hc; exact ⟨i, rfl, q Hf1 H1 S1 E1 k1⟩
  · cases e5
theorem cut_ok {xs : List PV} {us : List V} {lo hi : Option Int} (d : DpAll K Hf us xs) : DpAll K Hf (cutV us lo hi) (cut xs lo hi) := by
  unfold cut cutV
  rw [dps_len d]
  have e1 : ∀ n d o, sIx n d o = HT.sIx n d o := fun n d o => by cases o <;> rfl
  rw [e1, e1]
  exact dps_take _ (dps_drop _ d)
theorem sl_S {lo hi : Option Int} : UnS K (fun x H Q => rSlL K x lo hi H Q ∨ rSlA K x lo hi H Q) (fSl lo hi) := fun Hf H c x z e hc e5 Q q => by
  unfold fSl at e5
  split at e5
  · rename_i xs
    cases e5
    cases hc with
    | @tup a us _ hs ha =>
      refine .inr ⟨a, us, rfl, ex_t e hs, fun ⟨h1, h2⟩ => ?_, fun _ => newT e (cut_ok ha) q⟩
      have e1 : cut xs lo hi = xs := by
        have e1 : ∀ n d o, sIx n d o = HT.sIx n d o := fun n d o => by cases o <;> rfl
        unfold cut
        rw [e1, e1, ← dps_len ha, h1, h2, dps_len ha]
        simp
      rw [e1] at q
      exact old e (.tup hs ha) q
  · cases e5
    cases hc with
    | lst hs ha => exact .inl ⟨_, _, rfl, ex_l e hs, newL e (cut_ok ha) q⟩
  · cases e5
    obtain ⟨p, rfl, us, h4, ha⟩ := hc
    exact .inl ⟨_, _, rfl, SqL.of h4, newL e (cut_ok ha) q⟩
  · cases e5
theorem be_sl {lo hi : Option Expr} {ml mh : MO} {p2 : Pos} (ha : BE X a ma) (hl : BO X lo ml) (hh : BO X hi mh) : BE X (.Subscript a (.Slice lo hi none p2) pos) (mSl ma ml mh) := by
  obtain ⟨t, a1, a2⟩ := ha
  obtain ⟨tl, l1, l2⟩ := hl
  obtain ⟨th, h1, h2⟩ := hh
  refine ⟨_, pe_slice (sl_list.or sl_tupA) a1 l1 h1, fun ρ r ρ' σ Hf H hm E Q q => ?_⟩
  simp only [mSl, Option.bind_eq_some_iff, Option.map_eq_some_iff, Prod.mk.injEq] at hm
  obtain ⟨⟨x, ρ1⟩, e1, ⟨i, ρ2⟩, e2, ⟨j, ρ3⟩, e3, c, e4, z, e5, rfl, rfl⟩ := hm
  refine a2 ρ x ρ1 σ Hf H e1 E _ fun u Hf1 H1 S1 E1 R1 k1 => ?_
  have B1 : Bh X.K Hf H ρ σ Hf1 H1 ρ1 := ⟨S1, E1, k1⟩
  refine l2 ρ1 i ρ2 σ Hf1 H1 e2 E1 _ fun Hf2 H2 S2 E2 k2 => ?_
  have B2 : Bh X.K Hf1 H1 ρ1 σ Hf2 H2 ρ2 := ⟨S2, E2, k2⟩
  refine h2 ρ2 j ρ3 σ Hf2 H2 e3 E2 _ fun Hf3 H3 S3 E3 k3 => ?_
  have B3 : Bh X.K Hf2 H2 ρ2 σ Hf3 H3 ρ3 := ⟨S3, E3, k3⟩
  have R1' := B1.keepR E (B2.trans B3) R1
  refine sl_S Hf3 H3 c u z E3.ff (look_ok E3 R1' e4) e5 _ fun t Hf4 H4 S4 R4 => ?_
  have B4 := (B1.trans (B2.trans B3)).more S4
  exact q t Hf4 H4 B4.st B4.en (R4.any.back fun p hp => (B1.trans (B2.trans B3)).fresh hp) B4.kp
end
end Py
/-! Py4: what changes a name's object; statements. -/
namespace Py
open PySem PySem.Spec PyProof.Rows L2

section
variable {K : PySem.W.Frag} {Hf H Hf' H' Hf1 H1 Hf2 H2 H0 : Hp} {ρ ρ' ρ1 ρ2 : Env} {σ σ' σ1 σ2 : L2.St} {O O' O1 : Addr → Prop} {X : Cx}
theorem obAt_ok {i : Nat} {o : Ob} (E : RepE K Hf H ρ σ) (h : obAt ρ i = some o) : ∃ p, OwnAt ρ σ i p ∧ slot σ i = some (.ref p) ∧ Hf p = none ∧ RepOb K Hf H p o ∧ i < ρ.length := by
  unfold obAt at h
  cases g : get ρ i with
  | none => rw [g] at h; cases h
  | some s =>
    have hi : i < ρ.length := by
      by_cases hl : i < ρ.length
      · exact hl
      · unfold get at g
        rw [List.getElem?_eq_none (by omega)] at g
        cases g
    obtain ⟨u, h1, h2⟩ := E.sl i s g
    cases s with
    | val v => rw [g] at h; cases h
    | own o' => rw [g] at h; cases h; obtain ⟨p, rfl, f, r⟩ := h2; exact ⟨p, ⟨by rw [g]; rfl, h1⟩, h1, f, r, hi⟩
    | ref o' => rw [g] at h; cases h; obtain ⟨p, rfl, f, r⟩ := h2; exact ⟨p, ⟨by rw [g]; rfl, h1⟩, h1, f, r, hi⟩
    | lck kvs => rw [g] at h; cases h
theorem lstAt_ok {i : Nat} {xs : List PV} (E : RepE K Hf H ρ σ) (h : lstAt ρ i = some xs) : obAt ρ i = some (.lst xs) := by
  unfold lstAt at h
  split at h
  · cases h; assumption
  · cases h
theorem get_setOb (i j : Nat) (o : Ob) (hi : i < ρ.length) : get (setOb ρ i o) j = if i = j then (if isRef (get ρ i) then some (.ref o) else some (.own o)) else get ρ j := by
  unfold setOb
  cases g : get ρ i with
  | none => dsimp only; rw [get_set]; by_cases h : i = j <;> simp [h, hi, isRef] <;> (intro z; omega)
  | some s =>
    cases s <;> (dsimp only; rw [get_set]; by_cases h : i = j <;> simp [h, hi, isRef] <;> (intro z; omega))
/-- a name's object is changed -/
theorem mut_ok {i : Nat} {o o' : Ob} {p : Addr} {ho : HO} (E : RepE K Hf H ρ σ) (ha : OwnAt ρ σ i p) (hi : i < ρ.length) (r : RepOb K Hf (upd H p ho) p o') :
    Bh K Hf H ρ σ Hf (upd H p ho) (setOb ρ i o') := by
  obtain ⟨⟨x, hx⟩, fp⟩ := E.there ⟨i, ha⟩
  have ob : ∀ j, isOb (get (setOb ρ i o') j) = true → isOb (get ρ j) = true := fun j h => by
    rw [get_setOb i j o' hi] at h
    by_cases e : i = j
    · rw [← e]; exact ha.1
    · rw [if_neg e] at h; exact h
  refine ⟨⟨fun _ _ h => h, fun a o h => ?_, fun a o h n => ?_, fun _ _ _ _ => rfl, fun a o h => ?_⟩, ⟨?_, fun a o h => ?_, fun j s h => ?_, fun j k q a b => E.dis j k q ⟨ob j a.1, a.2⟩ ⟨ob k b.1, b.2⟩⟩, ⟨ob, fun j => ?_⟩⟩
  · rw [upd_ne (ne_of_none h fp)]; exact E.ff a o h
  · rw [upd_ne (fun z => n ⟨i, by rw [z]; exact ha⟩)]; exact h
  · by_cases e : a = p
    · subst e; exact ⟨_, upd_same⟩
    · exact ⟨o, by rw [upd_ne e]; exact h⟩
  · unfold setOb; split <;> rw [List.length_set] <;> exact E.len
  · rw [upd_ne (ne_of_none h fp)]; exact E.ff a o h
  · rw [get_setOb i j o' hi] at h
    by_cases e : i = j
    · subst e
      rw [if_pos rfl] at h
      refine ⟨_, ha.2, ?_⟩
      split at h
      · cases h; exact ⟨p, rfl, fp, r⟩
      · cases h; exact ⟨p, rfl, fp, r⟩
    · rw [if_neg e] at h
      obtain ⟨u, h1, h2⟩ := E.sl j s h
      refine ⟨u, h1, ?_⟩
      have np : ∀ q, u = .ref q → isOb (some s) = true → q ≠ p := fun q hu hb z => e (E.dis i j p ha ⟨by rw [h]; exact hb, by rw [h1, hu, z]⟩)
      cases s with
      | val v => exact h2
      | own o2 =>
        obtain ⟨q, e1, f1, r1⟩ := h2
        refine ⟨q, e1, f1, ?_⟩
        cases o2 with
        | lst ys => obtain ⟨vs, a, b⟩ := r1; exact ⟨vs, by rw [upd_ne (np q e1 rfl)]; exact a, b⟩
        | dct ys => obtain ⟨vs, a, b⟩ := r1; exact ⟨vs, by rw [upd_ne (np q e1 rfl)]; exact a, b⟩
      | ref o2 =>
        obtain ⟨q, e1, f1, r1⟩ := h2
        refine ⟨q, e1, f1, ?_⟩
        cases o2 with
        | lst ys => obtain ⟨vs, a, b⟩ := r1; exact ⟨vs, by rw [upd_ne (np q e1 rfl)]; exact a, b⟩
        | dct ys => obtain ⟨vs, a, b⟩ := r1; exact ⟨vs, by rw [upd_ne (np q e1 rfl)]; exact a, b⟩
      | lck kvs => exact h2
  · rw [get_setOb i j o' hi]
    by_cases e : i = j
    · subst e
      rw [if_pos rfl]
      cases hr : isRef (get ρ i) <;> simp [isRef]
    · rw [if_neg e]
/-! ### methods of a name's list -/
theorem se_append {i : Nat} {te : TE} {a : M} (ha : SE K te a) : SE K (tBM K "list" rAppend (tVar i) (tCons te tNil)) (mAppend i a) := by
  intro ρ r ρ' σ Hf H hm E Q q
  simp only [mAppend, Option.bind_eq_some_iff] at hm
  obtain ⟨ys, h0, ⟨x, ρ1⟩, e1, ⟨v, ρ2⟩, e2, xs, e3, e4⟩ := hm
  split at e4
  · rename_i hz
    cases e4
    obtain ⟨p, o1, s1, f1, ⟨vs, hv, dv⟩, _⟩ := obAt_ok E (lstAt_ok E h0)
    refine ⟨_, slot_at s1, .inl ⟨rfl, _, SqL.of hv⟩, ?_⟩
    refine ha ρ x ρ1 σ Hf H e1 E _ fun u Hf1 H1 S1 E1 R1 k1 => ?_
    have B1 : Bh K Hf H ρ σ Hf1 H1 ρ1 := ⟨S1, E1, k1⟩
    obtain ⟨Hf2, B2, d⟩ := B1.frz E R1 e2
    obtain ⟨p', o2, s2, f2, ⟨ws, hw, dw⟩, hi⟩ := obAt_ok B2.en (lstAt_ok B2.en e3)
    rw [s1] at s2
    cases s2
    have B3 := mut_ok (o := .lst xs) (o' := .lst (xs ++ [v])) (ho := .lst (ws ++ [u])) B2.en o2 hi ⟨_, upd_same, dps_app dw (.cons d .nil)⟩
    have B4 := B2.trans B3
    exact ⟨p, ws, u, rfl, rfl, hw, by rw [dps_len dw, ← line_eq]; exact hz, q _ _ _ B4.st B4.en .non B4.kp⟩
  · cases e4
theorem se_pop {i : Nat} : SE K (tBM0 K "list" rPop (tVar i)) (mPop i) := by
  intro ρ r ρ' σ Hf H hm E Q q
  simp only [mPop, Option.bind_eq_some_iff, Option.map_eq_some_iff, Prod.mk.injEq] at hm
  obtain ⟨xs, h0, v, e1, rfl, rfl⟩ := hm
  obtain ⟨p, o1, s1, f1, ⟨vs, hv, dv⟩, hi⟩ := obAt_ok E (lstAt_ok E h0)
  rw [List.getLast?_eq_getElem?] at e1
  obtain ⟨u, h1, h2⟩ := dps_get dv e1
  rw [← dps_len dv] at h1
  have B := mut_ok (o := .lst xs) (o' := .lst xs.dropLast) (ho := .lst vs.dropLast) E o1 hi ⟨_, upd_same, dps_dropLast dv⟩
  exact ⟨_, slot_at s1, .inl ⟨rfl, _, SqL.of hv⟩, p, vs, u, rfl, rfl, hv, h1, q _ _ _ B.st B.en h2 B.kp⟩
theorem se_reverse {i : Nat} : SE K (tBM0 K "list" rReverse (tVar i)) (mReverse i) := by
  intro ρ r ρ' σ Hf H hm E Q q
  simp only [mReverse, Option.map_eq_some_iff, Prod.mk.injEq] at hm
  obtain ⟨xs, h0, rfl, rfl⟩ := hm
  obtain ⟨p, o1, s1, f1, ⟨vs, hv, dv⟩, hi⟩ := obAt_ok E (lstAt_ok E h0)
  have B := mut_ok (o := .lst xs) (o' := .lst xs.reverse) (ho := .lst vs.reverse) E o1 hi ⟨_, upd_same, dps_rev dv⟩
  exact ⟨_, slot_at s1, .inl ⟨rfl, _, SqL.of hv⟩, p, vs, rfl, rfl, hv, q _ _ _ B.st B.en .non B.kp⟩
variable {a b : Expr} {ma mb : M} {x : Str} {p pos apos : Pos}
theorem be_append (i : Nat) (ho : PE X (.Name x p) (tVar i)) (ha : BE X a ma) (hbase : attributeBase (.Name x p) "append" X.env (eval (.Name x p) X.env) = eval (.Name x p) X.env := by rfl)
    (hfew : ((backTo pos (starEach [a] X.env)).all (fun x => !x.1) && (backToKw pos (keywordEach [] X.env)).all (fun x => x.1.isSome) && decide (([a] : List Expr).length + ([] : List Keyword).length + (if ([] : List Keyword).isEmpty then 0 else 1) < 30)) = true := by rfl)
    (hline : (apos.endLine == pos.line) = true := by rfl) (hs : starEach [a] X.env = (false, eval a X.env) :: starEach [] X.env := by rfl) (hp : (backTo pos (starEach [] X.env)).any (·.1) = false := by rfl) :
    BE X (.Call (.Attribute (.Name x p) "append" apos) [a] [] pos) (mAppend i ma) := by
  obtain ⟨t, a1, a2⟩ := ha
  exact ⟨_, pe_bm PySem.F.plainAttrs_list PySem.F.slot_list_append PySem.F.type_list_append mt_append ho (pa_cons a1 pa_nil hs) hbase hfew hline hs hp, se_append a2⟩
theorem be_pop (i : Nat) (ho : PE X (.Name x p) (tVar i)) (hbase : attributeBase (.Name x p) "pop" X.env (eval (.Name x p) X.env) = eval (.Name x p) X.env := by rfl) (hline : (apos.endLine == pos.line) = true := by rfl) :
    BE X (.Call (.Attribute (.Name x p) "pop" apos) [] [] pos) (mPop i) :=
  ⟨_, pe_bm0 PySem.F.plainAttrs_list PySem.F.slot_list_pop PySem.F.type_list_pop mt_pop ho hbase hline, se_pop⟩
theorem be_reverse (i : Nat) (ho : PE X (.Name x p) (tVar i)) (hbase : attributeBase (.Name x p) "reverse" X.env (eval (.Name x p) X.env) = eval (.Name x p) X.env := by rfl) (hline : (apos.endLine == pos.line) = true := by rfl) :
    BE X (.Call (.Attribute (.Name x p) "reverse" apos) [] [] pos) (mReverse i) :=
  ⟨_, pe_bm0 PySem.F.plainAttrs_list PySem.F.slot_list_reverse PySem.F.type_list_reverse mt_reverse ho hbase hline, se_reverse⟩
theorem be_frz (ha : BE X a ma) : BE X a (mFrz ma) := by
  obtain ⟨t, a1, a2⟩ := ha
  refine ⟨t, a1, fun ρ r ρ' σ Hf H hm E Q q => ?_⟩
  simp only [mFrz, Option.bind_eq_some_iff, Option.map_eq_some_iff, Prod.mk.injEq] at hm
  obtain ⟨⟨x, ρ1⟩, e1, ⟨v, ρ2⟩, e2, rfl, rfl⟩ := hm
  refine a2 ρ x ρ1 σ Hf H e1 E _ fun u Hf1 H1 S1 E1 R1 k1 => ?_
  obtain ⟨Hf2, B2, d⟩ := (⟨S1, E1, k1⟩ : Bh X.K Hf H ρ σ Hf1 H1 ρ1).frz E R1 e2
  exact q u Hf2 H1 B2.st B2.en d B2.kp
/-- a constant tuple of the module -/
theorem be_glob {vs : List PV} {g : Addr} (hg : Gl X x) (hm : X.mg x = some (.ref g)) (hd : ∀ H : Hp, Dp X.K H (.ref g) (.tuple vs)) (hdb : (x == ("__debug__" : Str)) = false := by decide) : BE X (.Name x pos) (mC (.tuple vs)) :=
  ⟨_, pe_glob (v := .ref g) hg hm rfl hdb, se_c hd⟩
theorem be_dct0 : BE X (.Dict [] [] pos) mDct0 := ⟨_, pe_dnewK, fun ρ r ρ' σ Hf H hm E Q q => by
  cases hm
  intro p hp
  obtain ⟨S, fp⟩ := new_ob (o := .dK []) E.ff hp
  have B := (Bh.refl E).more S
  exact q _ _ _ B.st B.en ⟨p, rfl, hp, fp, [], upd_same, .nil⟩ B.kp⟩
end

/-! ### statements -/
structure BhS (K : PySem.W.Frag) (Hf H : Hp) (ρ : Env) (σ : L2.St) (Hf1 H1 : Hp) (ρ1 : Env) (σ1 : L2.St) : Prop where
  st : Step (Own ρ σ) Hf H Hf1 H1
  en : RepE K Hf1 H1 ρ1 σ1
  own : ∀ p, Own ρ1 σ1 p → Own ρ σ p ∨ H p = none
  ref : ∀ i, isRef (get ρ1 i) = isRef (get ρ i) ∧ (isRef (get ρ i) = true → slot σ1 i = slot σ i)
def FlR (K : PySem.W.Frag) (D : Ends) (f : Fl) (Hf H H0 : Hp) (σ : L2.St) : Prop := match f with
  | .nx => D.nx σ H
  | .bk => D.bk σ H
  | .ct => D.ct σ H
  | .rt r => ∀ u, RepR K Hf H H0 σ r u → D.rt u H
def SS (K : PySem.W.Frag) (ts : TS) (m : SM) : Prop := ∀ (ρ : Env) (f : Fl) (ρ' : Env) (σ : L2.St) (Hf H : Hp), m ρ = some (f, ρ') → RepE K Hf H ρ σ → ∀ D : Ends,
  (∀ σ' Hf' H', BhS K Hf H ρ σ Hf' H' ρ' σ' → FlR K D f Hf' H' H σ') → ts D σ H
structure BS (X : Cx) (st : Stmt) (m : SM) : Prop where
  ex : ∃ t, PS X st t ∧ SS X.K t m
structure BSs (X : Cx) (st : List Stmt) (m : SM) : Prop where
  ex : ∃ t, PSs X st t ∧ SS X.K t m
/-- a target: nothing in the heap changes -/
structure BhG (K : PySem.W.Frag) (Hf H H0 : Hp) (ρ : Env) (σ : L2.St) (Hf1 : Hp) (ρ1 : Env) (σ1 : L2.St) : Prop where
  st : Step (fun p => Own ρ σ p ∨ H0 p = none) Hf H Hf1 H
  en : RepE K Hf1 H ρ1 σ1
  own : ∀ p, Own ρ1 σ1 p → Own ρ σ p ∨ H0 p = none
  ref : ∀ i, isRef (get ρ1 i) = isRef (get ρ i) ∧ (isRef (get ρ i) = true → slot σ1 i = slot σ i)
def SG (K : PySem.W.Frag) (g : TG) (m : MG) : Prop := ∀ (r : R) (ρ ρ' : Env) (σ : L2.St) (Hf H H0 : Hp) (u : V), m r ρ = some ρ' → RepE K Hf H ρ σ → RepR K Hf H H0 σ r u → (∀ q, Own ρ σ q → H0 q ≠ none) → ∀ Q : L2.St → Hp → Prop,
  (∀ σ' Hf', BhG K Hf H H0 ρ σ Hf' ρ' σ' → Q σ' H) → g u σ H Q
structure BG (X : Cx) (tg : Expr) (m : MG) : Prop where
  ex : ∃ g, PG X tg g ∧ SG X.K g m

section
variable {K : PySem.W.Frag} {Hf H Hf' H' Hf1 H1 Hf2 H2 H0 : Hp} {ρ ρ' ρ1 ρ2 : Env} {σ σ' σ1 σ2 : L2.St} {O O' O1 : Addr → Prop} {X : Cx}
theorem Bh.s (a : Bh K Hf H ρ σ Hf1 H1 ρ1) : BhS K Hf H ρ σ Hf1 H1 ρ1 σ := ⟨a.st, a.en, fun _ h => .inl (a.kp.sub h), fun i => ⟨a.kp.ref i, fun _ => rfl⟩⟩
theorem BhS.refl (E : RepE K Hf H ρ σ) : BhS K Hf H ρ σ Hf H ρ σ := (Bh.refl E).s
theorem BhS.trans (a : BhS K Hf H ρ σ Hf1 H1 ρ1 σ1) (b : BhS K Hf1 H1 ρ1 σ1 Hf2 H2 ρ2 σ2) : BhS K Hf H ρ σ Hf2 H2 ρ2 σ2 := by
  refine ⟨a.st.trans b.st a.own, b.en, fun p h => ?_, fun i => ?_⟩
  · rcases b.own p h with z | z
    · exact a.own p z
    · exact .inr (a.st.fresh z)
  · obtain ⟨x1, x2⟩ := a.ref i
    obtain ⟨y1, y2⟩ := b.ref i
    exact ⟨y1.trans x1, fun h => (y2 (x1.trans h)).trans (x2 h)⟩
theorem BhS.fresh (a : BhS K Hf H ρ σ Hf1 H1 ρ1 σ1) {p : Addr} (h : H1 p = none) : H p = none := a.st.fresh h
theorem Bh.g (a : Bh K Hf H ρ σ Hf1 H1 ρ1) (b : BhG K Hf1 H1 H ρ1 σ Hf2 ρ2 σ2) : BhS K Hf H ρ σ Hf2 H1 ρ2 σ2 := by
  refine ⟨a.st.trans b.st fun p h => ?_, b.en, fun p h => ?_, fun i => ?_⟩
  · rcases h with h | h
    · exact .inl (a.kp.sub h)
    · exact .inr h
  · rcases b.own p h with z | z
    · exact .inl (a.kp.sub z)
    · exact .inr z
  · obtain ⟨y1, y2⟩ := b.ref i
    exact ⟨y1.trans (a.kp.ref i), fun h => y2 ((a.kp.ref i).trans h)⟩
theorem FlR.back {D : Ends} {f : Fl} (h : FlR K D f Hf H H0 σ) (z : ∀ p, H1 p = none → H0 p = none) : FlR K D f Hf H H1 σ := by
  cases f with
  | nx => exact h
  | bk => exact h
  | ct => exact h
  | rt r => exact fun u hu => h u (hu.back z)
theorem get_lt {i : Nat} {s : Sl} (h : get ρ i = some s) : i < ρ.length := by
  by_cases hl : i < ρ.length
  · exact hl
  · unfold get at h
    rw [List.getElem?_eq_none (by omega)] at h
    cases h
/-- a value, or a new object, at a name -/
theorem put_ok {i : Nat} {s : Sl} {u : V} (E : RepE K Hf H ρ σ) (h : put i (some s) ρ = some ρ') (r : RepSl K Hf H s u) (n : ∀ p, isOb (some s) = true → u = .ref p → ¬ Own ρ σ p) :
    RepE K Hf H ρ' (σ.set i (some u)) ∧ (∀ p, Own ρ' (σ.set i (some u)) p → Own ρ σ p ∨ (isOb (some s) = true ∧ u = .ref p)) ∧ (∀ j, (isRef (get ρ' j) = true → isRef (some s) = true) ∨ isRef (get ρ' j) = isRef (get ρ j)) ∧
      (∀ j, isRef (some s) = false → isRef (get ρ' j) = isRef (get ρ j) ∧ (isRef (get ρ j) = true → slot (σ.set i (some u)) j = slot σ j)) := by
  unfold put at h
  split at h
  · cases h
  · rename_i nr
    cases h
    have hg : ∀ j, get (ρ.set i (some s)) j = if i = j ∧ i < ρ.length then some s else get ρ j := fun j => get_set ρ i j (some s)
    have hs : ∀ j, slot (σ.set i (some u)) j = if i = j ∧ i < σ.length then some u else slot σ j := fun j => slot_set σ i j (some u)
    have ow : ∀ j p, OwnAt (ρ.set i (some s)) (σ.set i (some u)) j p → (i = j ∧ i < ρ.length ∧ isOb (some s) = true ∧ u = .ref p) ∨ (OwnAt ρ σ j p ∧ ¬ (i = j ∧ i < ρ.length)) := fun j p ⟨a, b⟩ => by
      rw [hg] at a
      rw [hs, ← E.len] at b
      by_cases c : i = j ∧ i < ρ.length
      · rw [if_pos c] at a b
        cases b
        exact .inl ⟨c.1, c.2, a, rfl⟩
      · rw [if_neg c] at a b
        exact .inr ⟨⟨a, b⟩, c⟩
    refine ⟨⟨by rw [List.length_set, List.length_set]; exact E.len, E.ff, fun j t e => ?_, fun j k p a b => ?_⟩, fun p ⟨j, a⟩ => ?_, fun j => ?_, fun j hr => ⟨?_, fun hj => ?_⟩⟩
    · rw [hg] at e
      rw [hs, ← E.len]
      by_cases c : i = j ∧ i < ρ.length
      · rw [if_pos c] at e ⊢
        cases e
        exact ⟨u, rfl, r⟩
      · rw [if_neg c] at e ⊢
        exact E.sl j t e
    · rcases ow j p a with ⟨e1, l1, b1, u1⟩ | ⟨a1, c1⟩ <;> rcases ow k p b with ⟨e2, l2, b2, u2⟩ | ⟨a2, c2⟩
      · omega
      · exact absurd ⟨k, a2⟩ (n p b1 u1)
      · exact absurd ⟨j, a1⟩ (n p b2 u2)
      · exact E.dis j k p a1 a2
    · rcases ow j p a with ⟨e1, l1, b1, u1⟩ | ⟨a1, c1⟩
      · exact .inr ⟨b1, u1⟩
      · exact .inl ⟨j, a1⟩
    · rw [hg]
      by_cases c : i = j ∧ i < ρ.length
      · rw [if_pos c]; exact .inl fun z => z
      · rw [if_neg c]; exact .inr rfl
    · rw [hg]
      by_cases c : i = j ∧ i < ρ.length
      · rw [if_pos c, hr, ← c.1]; simpa using nr
      · rw [if_neg c]
    · rw [hs]
      have c : ¬ (i = j ∧ i < σ.length) := fun c => by
        rw [← c.1] at hj
        rw [hj] at nr
        exact nr rfl
      rw [if_neg c]
theorem sg_name (i : Nat) : SG K (L2.gName i) (Py.gName i) := by
  intro r ρ ρ' σ Hf H H0 u hm E R no Q q
  cases r with
  | val v =>
    obtain ⟨E1, h1, _, h3⟩ := put_ok (u := u) E hm R fun p h => nomatch h
    exact q _ Hf ⟨.refl E.ff, E1, fun p hp => (h1 p hp).imp id (fun z => nomatch z.1), fun j => h3 j rfl⟩
  | new o =>
    obtain ⟨p, rfl, z, f, r⟩ := R
    have np : ¬ Own ρ σ p := fun h => no p h z
    obtain ⟨E1, h1, _, h3⟩ := put_ok (s := .own o) (u := .ref p) E hm ⟨p, rfl, f, r⟩ fun p' _ h => by cases h; exact np
    exact q _ Hf ⟨.refl E.ff, E1, fun p' hp => (h1 p' hp).imp id fun z' => by cases z'.2; exact z, fun j => h3 j rfl⟩
  | bor j =>
    have hm' : (frz (.bor j) ρ).bind (fun v => put i (some (.val v.1)) v.2) = some ρ' := hm
    rw [Option.bind_eq_some_iff] at hm'
    obtain ⟨⟨v, ρ1⟩, e1, e2⟩ := hm'
    obtain ⟨Hf1, S, E1, d, k⟩ := frz_ok E R no e1
    obtain ⟨E2, h1, _, h3⟩ := put_ok (s := .val v) (u := u) E1 e2 d fun p h => nomatch h
    exact q _ Hf1 ⟨S, E2, fun p hp => (h1 p hp).elim (fun z => .inl (k.sub z)) (fun z => nomatch z.1), fun l => ⟨((h3 l rfl).1).trans (k.ref l), fun hl => (h3 l rfl).2 ((k.ref l).trans hl)⟩⟩
theorem bg_name (i : Nat) {x : Str} {pos : Pos} (hN : X.N.Nodup) (hi : X.N[i]? = some x := by rfl) (hx : Loc X.env.scope x := by first | exact Or.inl rfl | exact Or.inr rfl) (hf : X.fn x = true ∨ X.env.scope.names.lookup x = some .local := by first | exact .inl rfl | exact .inr rfl | assumption) : BG X (.Name x pos) (Py.gName i) :=
  ⟨_, pg_name hN hi hx hf, sg_name i⟩
end
end Py
/-! Py5: statements, loops, comprehensions. -/
namespace Py
open PySem PySem.Spec PyProof.Rows L2

section
variable {K : PySem.W.Frag} {Hf H Hf' H' Hf1 H1 Hf2 H2 H0 : Hp} {ρ ρ' ρ1 ρ2 : Env} {σ σ' σ1 σ2 : L2.St} {O O' O1 : Addr → Prop} {X : Cx}
theorem ss_next : SS K tNext sNext := by
  intro ρ f ρ' σ Hf H hm E D q
  cases hm
  exact q σ Hf H (.refl E)
theorem ss_seq {t u : TS} {a b : SM} (ha : SS K t a) (hb : SS K u b) : SS K (tSeq t u) (sSeq a b) := by
  intro ρ f ρ' σ Hf H hm E D q
  simp only [sSeq, Option.bind_eq_some_iff] at hm
  obtain ⟨⟨f1, ρ1⟩, e1, e2⟩ := hm
  refine ha ρ f1 ρ1 σ Hf H e1 E _ fun σ1 Hf1 H1 B1 => ?_
  cases f1 with
  | nx =>
    refine hb ρ1 f ρ' σ1 Hf1 H1 e2 B1.en D fun σ2 Hf2 H2 B2 => ?_
    exact (q σ2 Hf2 H2 (B1.trans B2)).back fun p hp => B1.fresh hp
  | bk => cases e2; exact q σ1 Hf1 H1 B1
  | ct => cases e2; exact q σ1 Hf1 H1 B1
  | rt r => cases e2; exact q σ1 Hf1 H1 B1
theorem ss_if {tt : TT} {t u : TS} {c : MT} {a b : SM} (hc : ST K tt c) (ha : SS K t a) (hb : SS K u b) : SS K (tIfS tt t u) (sIf c a b) := by
  intro ρ f ρ' σ Hf H hm E D q
  simp only [sIf, Option.bind_eq_some_iff] at hm
  obtain ⟨⟨x, ρ1⟩, e1, e2⟩ := hm
  refine hc ρ x ρ1 σ Hf H e1 E _ fun Hf1 H1 S1 E1 k1 => ?_
  have B1 : Bh K Hf H ρ σ Hf1 H1 ρ1 := ⟨S1, E1, k1⟩
  cases x with
  | true =>
    simp only [if_true] at e2 ⊢
    exact ha ρ1 f ρ' σ Hf1 H1 e2 E1 D fun σ2 Hf2 H2 B2 => (q σ2 Hf2 H2 (B1.s.trans B2)).back fun p hp => B1.fresh hp
  | false =>
    simp only [Bool.false_eq_true, if_false] at e2 ⊢
    exact hb ρ1 f ρ' σ Hf1 H1 e2 E1 D fun σ2 Hf2 H2 B2 => (q σ2 Hf2 H2 (B1.s.trans B2)).back fun p hp => B1.fresh hp
theorem ss_ret {te : TE} {a : M} (ha : SE K te a) : SS K (tRet te) (sRet a) := by
  intro ρ f ρ' σ Hf H hm E D q
  simp only [sRet, Option.map_eq_some_iff, Prod.mk.injEq] at hm
  obtain ⟨⟨x, ρ1⟩, e1, rfl, rfl⟩ := hm
  exact ha ρ x ρ1 σ Hf H e1 E _ fun u Hf1 H1 S1 E1 R1 k1 => q σ Hf1 H1 (⟨S1, E1, k1⟩ : Bh K Hf H ρ σ Hf1 H1 ρ1).s u R1
theorem ss_expr {te : TE} {a : M} (ha : SE K te a) : SS K (tDrop te) (sExpr a) := by
  intro ρ f ρ' σ Hf H hm E D q
  simp only [sExpr, Option.map_eq_some_iff, Prod.mk.injEq] at hm
  obtain ⟨⟨x, ρ1⟩, e1, rfl, rfl⟩ := hm
  exact ha ρ x ρ1 σ Hf H e1 E _ fun u Hf1 H1 S1 E1 R1 k1 => q σ Hf1 H1 (⟨S1, E1, k1⟩ : Bh K Hf H ρ σ Hf1 H1 ρ1).s
theorem ss_asg {te : TE} {g : TG} {a : M} {m : MG} (ha : SE K te a) (hg : SG K g m) : SS K (tAsg te g) (sAsg a m) := by
  intro ρ f ρ' σ Hf H hm E D q
  simp only [sAsg, Option.bind_eq_some_iff, Option.map_eq_some_iff, Prod.mk.injEq] at hm
  obtain ⟨⟨x, ρ1⟩, e1, ρ2, e2, rfl, rfl⟩ := hm
  refine ha ρ x ρ1 σ Hf H e1 E _ fun u Hf1 H1 S1 E1 R1 k1 => ?_
  have B1 : Bh K Hf H ρ σ Hf1 H1 ρ1 := ⟨S1, E1, k1⟩
  exact hg x ρ1 ρ2 σ Hf1 H1 H u e2 E1 R1 (B1.no E) _ fun σ2 Hf2 B2 => q σ2 Hf2 H1 (B1.g B2)
/-- several names, a tuple's items -/
def tNames : List Nat → TGs
  | [] => gNil
  | i :: is => gCons (L2.gName i) (tNames is)
theorem names_ok : ∀ (is : List Nat) (vs : List PV) (us : List V) (ρ ρ' : Env) (σ : L2.St), gNames is vs ρ = some ρ' → RepE K Hf H ρ σ → DpAll K Hf us vs → ∀ Q : L2.St → Hp → Prop,
    (∀ σ', BhG K Hf H H0 ρ σ Hf ρ' σ' → Q σ' H) → tNames is us σ H Q := by
  intro is
  induction is with
  | nil =>
    intro vs us ρ ρ' σ hm E d Q q
    cases vs with
    | nil => cases hm; cases d; exact ⟨rfl, q σ ⟨.refl E.ff, E, fun _ h => .inl h, fun _ => ⟨rfl, fun _ => rfl⟩⟩⟩
    | cons v vs => cases hm
  | cons i is ih =>
    intro vs us ρ ρ' σ hm E d Q q
    cases vs with
    | nil => cases hm
    | cons v vs =>
      simp only [gNames, Option.bind_eq_some_iff] at hm
      obtain ⟨ρ1, e1, e2⟩ := hm
      cases d with
      | @cons u us' _ _ d1 d2 =>
        obtain ⟨E1, h1, _, h3⟩ := put_ok (s := .val v) (u := u) E e1 d1 fun p h => nomatch h
        refine ⟨u, us', rfl, ?_⟩
        refine ih vs us' ρ1 ρ' _ e2 E1 d2 Q fun σ' B => q σ' ⟨.refl E.ff, B.en, fun p hp => ?_, fun j => ?_⟩
        · rcases B.own p hp with z | z
          · exact (h1 p z).imp id fun z => nomatch z.1
          · exact .inr z
        · obtain ⟨y1, y2⟩ := B.ref j
          obtain ⟨x1, x2⟩ := h3 j rfl
          exact ⟨y1.trans x1, fun h => (y2 (x1.trans h)).trans (x2 h)⟩
theorem sg_tup {is : List Nat} {n : Nat} (hn : is.length = n) : SG K (L2.gTup K n (tNames is)) (Py.gTup is) := by
  intro r ρ ρ' σ Hf H H0 u hm E R no Q q
  unfold Py.gTup at hm
  split at hm
  · rename_i xs
    have R' : Dp K Hf u (.tuple xs) := R
    cases R' with
    | @tup a us _ hs ha =>
      have hl : ∀ (is : List Nat) (xs : List PV) (ρ ρ' : Env), gNames is xs ρ = some ρ' → is.length = xs.length := by
        intro is
        induction is with
        | nil => intro xs ρ ρ' h; cases xs with
          | nil => rfl
          | cons x xs => cases h
        | cons i is ih => intro xs ρ ρ' h; cases xs with
          | nil => cases h
          | cons x xs =>
            simp only [gNames, Option.bind_eq_some_iff] at h
            obtain ⟨ρ1, _, e2⟩ := h
            rw [List.length_cons, List.length_cons, ih xs ρ1 ρ' e2]
      exact ⟨a, us, rfl, ex_t E.ff hs, by rw [dps_len ha, ← hl is xs ρ ρ' hm, hn], names_ok is xs us ρ ρ' σ hm E ha Q fun σ' B => q σ' Hf B⟩
  · cases hm
/-- a, b = x, y -/
def parPut (i j : Nat) (x y : R) (ρ : Env) : Option Env := (Py.gName i x ρ).bind fun ρ1 => Py.gName j y ρ1
theorem ss_par {i j : Nat} {ta tb : TE} {a b : M} (ha : SE K ta a) (hb : SE K tb b) : SS K (tPar i j (tCons ta (tCons tb tNil))) (sPar i j a b) := by
  intro ρ f ρ' σ Hf H hm E D q
  simp only [sPar, Option.bind_eq_some_iff, Option.map_eq_some_iff, Prod.mk.injEq] at hm
  obtain ⟨⟨x, ρ1⟩, e1, ⟨v, ρ2⟩, e2, ⟨y, ρ3⟩, e3, ⟨w, ρ4⟩, e4, ρ5, e5, ρ6, e6, rfl, rfl⟩ := hm
  refine ha ρ x ρ1 σ Hf H e1 E _ fun u Hf1 H1 S1 E1 R1 k1 => ?_
  have B1 : Bh K Hf H ρ σ Hf1 H1 ρ1 := ⟨S1, E1, k1⟩
  obtain ⟨Hf2, B2, d⟩ := B1.frz E R1 e2
  refine hb ρ2 y ρ3 σ Hf2 H1 e3 B2.en _ fun u2 Hf3 H3 S3 E3 R3 k3 => ?_
  have B3' : Bh K Hf2 H1 ρ2 σ Hf3 H3 ρ3 := ⟨S3, E3, k3⟩
  obtain ⟨Hf4, B4', d4⟩ := B3'.frz B2.en R3 e4
  have B4 := B2.trans B4'
  have d' := dp_mono B4'.st.ff _ _ d
  obtain ⟨E5, h1, _, h3⟩ := put_ok (s := .val v) (u := u) B4.en e5 d' fun p h => nomatch h
  obtain ⟨E6, h4, _, h6⟩ := put_ok (s := .val w) (u := u2) E5 e6 d4 fun p h => nomatch h
  refine ⟨u, u2, rfl, q _ Hf4 H3 ⟨B4.st, E6, fun p hp => ?_, fun l => ?_⟩⟩
  · rcases h4 p hp with z | z
    · rcases h1 p z with z | z
      · exact .inl (B4.kp.sub z)
      · cases z.1
    · cases z.1
  · obtain ⟨a1, a2⟩ := h3 l rfl
    obtain ⟨b1, b2⟩ := h6 l rfl
    have c := B4.kp.ref l
    exact ⟨b1.trans (a1.trans c), fun h => (b2 (a1.trans (c.trans h))).trans (a2 (c.trans h))⟩
/-- xs[e] = v -/
theorem ss_setIx {i : Nat} {te ti : TE} {a e : M} (ha : SE K te a) (he : SE K ti e) : SS K (tAsg te (gSub (tVar i) ti rSetL)) (sSetIx i e a) := by
  intro ρ f ρ' σ Hf H hm E D q
  simp only [sSetIx, Option.bind_eq_some_iff, Option.map_eq_some_iff, Prod.mk.injEq] at hm
  obtain ⟨⟨x, ρ1⟩, e1, ⟨v, ρ2⟩, e2, ys, h0, ⟨y, ρ3⟩, e3, c, e4, k, e5, xs, e6, j, e7, rfl, rfl⟩ := hm
  refine ha ρ x ρ1 σ Hf H e1 E _ fun u Hf1 H1 S1 E1 R1 k1 => ?_
  have B1 : Bh K Hf H ρ σ Hf1 H1 ρ1 := ⟨S1, E1, k1⟩
  obtain ⟨Hf2, B2, d⟩ := B1.frz E R1 e2
  obtain ⟨p, o1, s1, f1, ⟨vs, hv, dv⟩, _⟩ := obAt_ok B2.en (lstAt_ok B2.en h0)
  refine ⟨_, slot_at s1, ?_⟩
  refine he ρ2 y ρ3 σ Hf2 H1 e3 B2.en _ fun w Hf3 H3 S3 E3 R3 k3 => ?_
  have B3' : Bh K Hf2 H1 ρ2 σ Hf3 H3 ρ3 := ⟨S3, E3, k3⟩
  have B3 := B2.trans B3'
  have hc := look_ok E3 R3 e4
  unfold intOf at e5
  split at e5
  · cases e5
    cases hc
    obtain ⟨p', o2, s2, f2, ⟨ws, hw, dw⟩, hi⟩ := obAt_ok B3.en (lstAt_ok B3.en e6)
    rw [s1] at s2
    cases s2
    have d' := dp_mono S3.ff _ _ d
    have B4 := B3.trans (mut_ok (o := .lst xs) (o' := .lst (xs.set j v)) (ho := .lst (ws.set j u)) B3.en o2 hi ⟨_, upd_same, dps_set d' _ dw⟩)
    exact ⟨p, ws, k, j, rfl, rfl, hw, by rw [dps_len dw]; exact e7, q σ Hf3 _ B4.s⟩
  · cases e5
theorem ss_fgt {t : TS} {a : SM} (is : List Nat) (ha : SS K t a) : SS K t (sFgt is a) := by
  intro ρ f ρ' σ Hf H hm E D q
  simp only [sFgt, Option.map_eq_some_iff] at hm
  obtain ⟨⟨f1, ρ1⟩, e1, e2⟩ := hm
  refine ha ρ f1 ρ1 σ Hf H e1 E D fun σ' Hf' H' B => ?_
  have e3 : (f = f1 ∧ ρ' = ρ1) ∨ (f = f1 ∧ ρ' = forget is ρ1) := by
    cases f1 <;> (cases e2; first | exact .inl ⟨rfl, rfl⟩ | exact .inr ⟨rfl, rfl⟩)
  rcases e3 with ⟨rfl, rfl⟩ | ⟨rfl, rfl⟩
  · exact q σ' Hf' H' B
  refine q σ' Hf' H' ?_
  have key : ∀ is : List Nat, (forget is ρ1).length = ρ1.length ∧ (∀ j, get (forget is ρ1) j = get ρ1 j ∨ (get (forget is ρ1) j = none ∧ isRef (get ρ1 j) = false)) := by
    intro is
    induction is with
    | nil => exact ⟨rfl, fun _ => .inl rfl⟩
    | cons i is ih =>
      obtain ⟨h1, h2⟩ := ih
      unfold forget
      split
      · exact ⟨h1, h2⟩
      · rename_i nr
        refine ⟨by rw [List.length_set]; exact h1, fun j => ?_⟩
        rw [get_set]
        split
        · rename_i c
          refine .inr ⟨rfl, ?_⟩
          rw [c.1] at nr
          rcases h2 j with z | z
          · rw [z] at nr; simpa using nr
          · exact z.2
        · exact h2 j
  obtain ⟨kl, kg⟩ := key is
  have sub : ∀ j p, OwnAt (forget is ρ1) σ' j p → OwnAt ρ1 σ' j p := fun j p ⟨x, y⟩ => by
    refine ⟨?_, y⟩
    rcases kg j with z | z
    · rw [z] at x; exact x
    · rw [z.1] at x
      cases x
  refine ⟨B.st, ⟨kl.trans B.en.len, B.en.ff, fun j s e => ?_, fun j k p x y => B.en.dis j k p (sub j p x) (sub k p y)⟩, fun p ⟨j, x⟩ => B.own p ⟨j, sub j p x⟩, fun j => ⟨?_, (B.ref j).2⟩⟩
  · rcases kg j with z | z
    · rw [z] at e; exact B.en.sl j s e
    · rw [z.1] at e; cases e
  · rw [← (B.ref j).1]
    rcases kg j with z | z
    · rw [z]
    · rw [z.1, z.2]; rfl
/-! ### what a for walks -/
def Walk (K : PySem.W.Frag) (J : It) (xs : List PV) (O : Addr → Prop) (Hf H : Hp) : Prop := ∀ Hf2 H2, Step O Hf H Hf2 H2 → ∀ i : Nat,
  (∀ x, xs[i]? = some x → J.go i H2 ∧ ∀ u H3, J.yld i H2 u H3 → H3 = H2 ∧ Dp K Hf2 u x) ∧ (xs.length ≤ i → J.stop i H2)
def SI (K : PySem.W.Frag) (wi : TI) (m : MI) : Prop := ∀ (ρ : Env) (xs : List PV) (ρ' : Env) (σ : L2.St) (Hf H : Hp), m ρ = some (xs, ρ') → RepE K Hf H ρ σ → ∀ R : It → Hp → Prop,
  (∀ J Hf' H', Bh K Hf H ρ σ Hf' H' ρ' → Walk K J xs (Own ρ' σ) Hf' H' → R J H') → wi σ H R
structure BI (X : Cx) (tg e : Expr) (m : MI) : Prop where
  ex : ∃ wi, PI X tg e wi ∧ SI X.K wi m
/-- a list or a tuple -/
def iSq (K : PySem.W.Frag) (tl : TE) : TI := fun σ H R => tl σ H fun x H1 => ∃ a, x = .ref a ∧ (((∃ xs, SqL K H1 a xs) ∧ R (Itl K a) H1) ∨ ((∃ xs, SqT K H1 a xs) ∧ R (Itt K a) H1))
theorem pi_sq {tg l : Expr} {tl : TE} (hl : PE X l tl) : PI X tg l (iSq X.K tl) := by
  constructor
  intro pins s σ H R I h
  refine thn (hl.run pins s σ H _ I h) ?_
  rintro v s1 ⟨x, Ha, Ia, rx, a, rfl, hc⟩
  cases rx
  have old : ∀ o : Obj, Inv X pins σ Ha { s1 with heap := s1.heap.push o } := fun o => Ia.kept (t' := s1.toks) (fun _ _ z => Heap.get?_push_of_some _ z)
  have fp : ∀ b ∈ [s1.heap.objs.size], FpOk X pins Ha b := by
    intro b hb
    rw [List.mem_singleton.mp hb]
    exact Ia.fpOk (Nat.le_refl _) (Ia.hok.fresh (Nat.le_refl _))
  rcases hc with ⟨⟨xs, hq⟩, q⟩ | ⟨⟨xs, hq⟩, q⟩
  · obtain ⟨its, _, pl, _⟩ := Ia.list hq
    exact wpAny_pyIter_list pl.isList ⟨_, [_], _, _, Ha, rfl, old _, turn_list a _, ⟨_, Heap.get?_push_size _ rfl, rfl, rfl⟩, fp, q⟩
  · obtain ⟨its, _, pl, _⟩ := Ia.tuple hq
    exact wpAny_pyIter_tuple (show s1.heap.IsTuple a its.toArray from pl) ⟨_, [_], _, _, Ha, rfl, old _, turn_tuple a _, ⟨_, Heap.get?_push_size _ rfl, rfl, rfl⟩, fp, q⟩
/-- how a list at a is walked -/
theorem walk_l {a : Addr} {us : List V} {xs : List PV} (keep : ∀ Hf2 H2, Step O Hf H Hf2 H2 → SqL K H2 a us) (d : DpAll K Hf us xs) : Walk K (Itl K a) xs O Hf H := by
  intro Hf2 H2 S i
  refine ⟨fun x hx => ?_, fun hi => ⟨us, keep _ _ S, by rw [dps_len d]; exact hi⟩⟩
  obtain ⟨u, h1, h2⟩ := dps_get d hx
  refine ⟨⟨us, u, keep _ _ S, h1⟩, fun u' H3 ⟨e, y⟩ => ⟨e, ?_⟩⟩
  have h3 := y us (keep _ _ S)
  rw [h1] at h3
  cases h3
  exact dp_mono S.ff _ _ h2
theorem walk_t {a : Addr} {us : List V} {xs : List PV} (keep : ∀ Hf2 H2, Step O Hf H Hf2 H2 → SqT K H2 a us) (d : DpAll K Hf us xs) : Walk K (Itt K a) xs O Hf H := by
  intro Hf2 H2 S i
  refine ⟨fun x hx => ?_, fun hi => ⟨us, keep _ _ S, by rw [dps_len d]; exact hi⟩⟩
  obtain ⟨u, h1, h2⟩ := dps_get d hx
  refine ⟨⟨us, u, keep _ _ S, h1⟩, fun u' H3 ⟨e, y⟩ => ⟨e, ?_⟩⟩
  have h3 := y us (keep _ _ S)
  rw [h1] at h3
  cases h3
  exact dp_mono S.ff _ _ h2
theorem si_seq {te : TE} {a : M} (ha : SE K te a) : SI K (iSq K te) (iSeq a) := by
  intro ρ xs ρ' σ Hf H hm E R q
  simp only [iSeq, Option.bind_eq_some_iff] at hm
  obtain ⟨⟨x, ρ1⟩, e1, e2⟩ := hm
  refine ha ρ x ρ1 σ Hf H e1 E _ fun u Hf1 H1 S1 E1 R1 k1 => ?_
  have B1 : Bh K Hf H ρ σ Hf1 H1 ρ1 := ⟨S1, E1, k1⟩
  cases x with
  | val v =>
    have R1' : Dp K Hf1 u v := R1
    cases v with
    | list ys =>
      cases e2
      cases R1' with
      | lst hs d => exact ⟨_, rfl, .inl ⟨⟨_, ex_l E1.ff hs⟩, q _ Hf1 H1 B1 (walk_l (fun Hf2 H2 S => ex_l S.fh (ex_l S.ff hs)) d)⟩⟩
    | tuple ys =>
      cases e2
      cases R1' with
      | tup hs d => exact ⟨_, rfl, .inr ⟨⟨_, ex_t E1.ff hs⟩, q _ Hf1 H1 B1 (walk_t (fun Hf2 H2 S => ex_t S.fh (ex_t S.ff hs)) d)⟩⟩
    | none => cases e2
    | bool b => cases e2
    | int i => cases e2
    | str y => cases e2
    | dict y => cases e2
  | new o =>
    cases o with
    | lst ys =>
      cases e2
      obtain ⟨p, rfl, z, f, us, hu, d⟩ := R1
      exact ⟨p, rfl, .inl ⟨⟨us, SqL.of hu⟩, q _ Hf1 H1 B1 (walk_l (fun Hf2 H2 S => SqL.of (S.keep p _ hu fun w => B1.no E p w z)) d)⟩⟩
    | dct ys => cases e2
  | bor i => cases e2
theorem walk_r {lo : Int} {n : Nat} : Walk K (Itr lo n) (rangeL lo n) O Hf H := by
  intro Hf2 H2 S i
  unfold rangeL
  constructor
  · intro x hx
    rw [List.getElem?_map, Option.map_eq_some_iff] at hx
    obtain ⟨k, h1, rfl⟩ := hx
    obtain ⟨h2, h3⟩ := List.getElem?_eq_some_iff.mp h1
    rw [List.getElem_range] at h3
    subst h3
    rw [List.length_range] at h2
    exact ⟨h2, fun u H3 ⟨e1, e2⟩ => ⟨e1, by rw [e2]; exact .int _⟩⟩
  · intro hi
    have h : n ≤ i := by simpa using hi
    exact h
theorem intOf_some {c : Ct} {i : Int} {u : V} (h : intOf c = some i) (r : RepC K Hf H c u) : u = .int i := by
  unfold intOf at h
  split at h
  · cases h; cases r; rfl
  · cases h
theorem si_rng1 {te : TE} {a : M} (ha : SE K te a) : SI K (L2.iRng1 (tCons te tNil)) (Py.iRng1 a) := by
  intro ρ xs ρ' σ Hf H hm E R q
  simp only [Py.iRng1, Option.bind_eq_some_iff] at hm
  obtain ⟨⟨x, ρ1⟩, e1, c, e2, n, e3, e4⟩ := hm
  split at e4
  · rename_i hz
    cases e4
    refine ha ρ x ρ1 σ Hf H e1 E _ fun u Hf1 H1 S1 E1 R1 k1 => ?_
    have B1 : Bh K Hf H ρ σ Hf1 H1 ρ1 := ⟨S1, E1, k1⟩
    have hl : (line : Int) = 16777216 := rfl
    exact ⟨n, by rw [intOf_some e3 (look_ok E1 R1 e2)], by omega, by omega, q _ Hf1 H1 B1 walk_r⟩
  · cases e4
theorem si_rng2 {te tf : TE} {a b : M} (ha : SE K te a) (hb : SE K tf b) : SI K (L2.iRng2 (tCons te (tCons tf tNil))) (Py.iRng2 a b) := by
  intro ρ xs ρ' σ Hf H hm E R q
  simp only [Py.iRng2, Option.bind_eq_some_iff] at hm
  obtain ⟨⟨x, ρ1⟩, e1, c, e2, n, e3, ⟨y, ρ2⟩, e4, d, e5, k, e6, e7⟩ := hm
  split at e7
  · rename_i hz
    cases e7
    refine ha ρ x ρ1 σ Hf H e1 E _ fun u Hf1 H1 S1 E1 R1 k1 => ?_
    have B1 : Bh K Hf H ρ σ Hf1 H1 ρ1 := ⟨S1, E1, k1⟩
    have eu := intOf_some e3 (look_ok E1 R1 e2)
    refine hb ρ1 y ρ2 σ Hf1 H1 e4 E1 _ fun w Hf2 H2 S2 E2 R2 k2 => ?_
    have B2 := B1.trans (⟨S2, E2, k2⟩ : Bh K Hf1 H1 ρ1 σ Hf2 H2 ρ2)
    exact ⟨n, k, by rw [eu, intOf_some e6 (look_ok E2 R2 e5)], ⟨by omega, by omega, by omega, by omega⟩, q _ Hf2 H2 B2 walk_r⟩
  · cases e7
theorem drop_get {α : Type} {xs : List α} {i : Nat} {x : α} {r : List α} (h : xs.drop i = x :: r) : xs[i]? = some x ∧ xs.drop (i + 1) = r := by
  have h1 : (xs.drop i)[0]? = some x := by rw [h]; rfl
  rw [List.getElem?_drop, Nat.add_zero] at h1
  refine ⟨h1, ?_⟩
  rw [← List.drop_drop, h]
  rfl
/-- the loop: f, ρ' its end -/
theorem loop_ok {J : It} {xs : List PV} {g : TG} {mg : MG} {tb : TS} {b : SM} {f : Fl} {D : Ends} (hg : SG K g mg) (hb : SS K tb b) (E1 : RepE K Hf1 H1 ρ1 σ) (w : Walk K J xs (Own ρ1 σ) Hf1 H1) (hl : loopF mg b xs ρ1 = some (f, ρ'))
    (q : ∀ σ' Hf' H', BhS K Hf1 H1 ρ1 σ Hf' H' ρ' σ' → FlR K D f Hf' H' H1 σ') :
    ∃ W : Nat → Nat → L2.St → Hp → Prop, (∃ m, W 0 m σ H1) ∧ ∀ i m σ H, W i m σ H → (J.stop i H ∧ D.nx σ H) ∨
      (J.go i H ∧ ∃ N : L2.St → Hp → Prop, (∀ σ' H', N σ' H' → ∃ m', m' < m ∧ W (i + 1) m' σ' H') ∧ ∀ x H', J.yld i H x H' → g x σ H' fun σ2 H2 => tb { D with nx := N, ct := N, bk := D.nx } σ2 H2) := by
  refine ⟨fun i m σ2 H2 => m = xs.length - i ∧ i ≤ xs.length ∧ ∃ ρ2 Hf2, loopF mg b (xs.drop i) ρ2 = some (f, ρ') ∧ BhS K Hf1 H1 ρ1 σ Hf2 H2 ρ2 σ2, ⟨_, rfl, Nat.zero_le _, ρ1, Hf1, hl, .refl E1⟩, ?_⟩
  rintro i m σ2 H2 ⟨rfl, hi, ρ2, Hf2, e, B⟩
  obtain ⟨w1, w2⟩ := w Hf2 H2 B.st i
  cases hd : xs.drop i with
  | nil =>
    rw [hd] at e
    cases e
    have hle : xs.length ≤ i := by
      have := congrArg List.length hd
      rw [List.length_drop, List.length_nil] at this
      omega
    exact .inl ⟨w2 hle, q σ2 Hf2 H2 B⟩
  | cons x r =>
    rw [hd] at e
    obtain ⟨hx, hr⟩ := drop_get hd
    have hlt : i < xs.length := (List.getElem?_eq_some_iff.mp hx).1
    obtain ⟨go, yl⟩ := w1 x hx
    simp only [loopF, Option.bind_eq_some_iff] at e
    obtain ⟨ρ3, e1, ⟨fb, ρ4⟩, e2, e3⟩ := e
    refine .inr ⟨go, fun σ' H' => ∃ ρ5 Hf5, loopF mg b (xs.drop (i + 1)) ρ5 = some (f, ρ') ∧ BhS K Hf1 H1 ρ1 σ Hf5 H' ρ5 σ', fun σ' H' ⟨ρ5, Hf5, h1, h2⟩ => ⟨_, by omega, rfl, hlt, ρ5, Hf5, h1, h2⟩, fun u H3 hy => ?_⟩
    obtain ⟨rfl, du⟩ := yl u H3 hy
    refine hg (.val x) ρ2 ρ3 σ2 Hf2 H3 H3 u e1 B.en du (fun p hp => by obtain ⟨⟨o, ho⟩, _⟩ := B.en.there hp; rw [ho]; exact fun z => nomatch z) _ fun σ3 Hf3 B3 => ?_
    have B3' : BhS K Hf1 H1 ρ1 σ Hf3 H3 ρ3 σ3 := B.trans ((Bh.refl B.en).g B3)
    refine hb ρ3 fb ρ4 σ3 Hf3 H3 e2 B3.en _ fun σ4 Hf4 H4 B4 => ?_
    have B4' := B3'.trans B4
    cases fb with
    | nx => exact ⟨ρ4, Hf4, by rw [hr]; exact e3, B4'⟩
    | ct => exact ⟨ρ4, Hf4, by rw [hr]; exact e3, B4'⟩
    | bk => cases e3; exact q σ4 Hf4 H4 B4'
    | rt r' => cases e3; exact (q σ4 Hf4 H4 B4').back fun p hp => B3'.fresh hp
theorem ss_for {wi : TI} {g : TG} {tb : TS} {it : MI} {mg : MG} {b : SM} (hi : SI K wi it) (hg : SG K g mg) (hb : SS K tb b) : SS K (tFor wi g tb) (sFor it mg b) := by
  intro ρ f ρ' σ Hf H hm E D q
  simp only [sFor, Option.bind_eq_some_iff] at hm
  obtain ⟨⟨xs, ρ1⟩, e1, e2⟩ := hm
  refine hi ρ xs ρ1 σ Hf H e1 E _ fun J Hf1 H1 B1 w => ?_
  exact loop_ok hg hb B1.en w e2 fun σ' Hf' H' B => (q σ' Hf' H' (B1.s.trans B)).back fun p hp => B1.fresh hp
theorem whileF_some {t : MT} {b : SM} {x : Fl × Env} (h : sWhile t b ρ = some x) : ∃ n, whileF t b n ρ = some x := by
  unfold sWhile at h
  split at h
  · rename_i c; exact ⟨_, h⟩
  · cases h
theorem ss_while {tt : TT} {tb : TS} {t : MT} {b : SM} (ht : ST K tt t) (hb : SS K tb b) : SS K (tWhile tt tb) (sWhile t b) := by
  intro ρ f ρ' σ Hf H hm E D q
  obtain ⟨n, hn⟩ := whileF_some hm
  refine ⟨fun m σ2 H2 => ∃ ρ2 Hf2, whileF t b m ρ2 = some (f, ρ') ∧ BhS K Hf H ρ σ Hf2 H2 ρ2 σ2, ⟨n, ρ, Hf, hn, .refl E⟩, ?_⟩
  rintro m σ2 H2 ⟨ρ2, Hf2, e, B⟩
  cases m with
  | zero => cases e
  | succ m =>
    simp only [whileF, Option.bind_eq_some_iff] at e
    obtain ⟨⟨x, ρ3⟩, e1, e2⟩ := e
    refine ht ρ2 x ρ3 σ2 Hf2 H2 e1 B.en _ fun Hf3 H3 S3 E3 k3 => ?_
    have B3 := B.trans (⟨S3, E3, k3⟩ : Bh K Hf2 H2 ρ2 σ2 Hf3 H3 ρ3).s
    cases x with
    | false =>
      simp only [Bool.false_eq_true, if_false] at e2 ⊢
      cases e2
      exact q σ2 Hf3 H3 B3
    | true =>
      simp only [if_true, Option.bind_eq_some_iff] at e2 ⊢
      obtain ⟨⟨fb, ρ4⟩, e3, e4⟩ := e2
      refine ⟨fun σ' H' => ∃ ρ5 Hf5, whileF t b m ρ5 = some (f, ρ') ∧ BhS K Hf H ρ σ Hf5 H' ρ5 σ', fun σ' H' h => ⟨m, Nat.lt_succ_self _, h⟩, ?_⟩
      refine hb ρ3 fb ρ4 σ2 Hf3 H3 e3 E3 _ fun σ4 Hf4 H4 B4 => ?_
      have B4' := B3.trans B4
      cases fb with
      | nx => exact ⟨ρ4, Hf4, e4, B4'⟩
      | ct => exact ⟨ρ4, Hf4, e4, B4'⟩
      | bk => cases e4; exact q σ4 Hf4 H4 B4'
      | rt r' => cases e4; exact (q σ4 Hf4 H4 B4').back fun p hp => B3.fresh hp
end

/-! ### the rules -/
section
variable {X : Cx} {a b c : Expr} {ma mb mc : M} {mt : MT} {m n : SM} {st : Stmt} {sts sts2 : List Stmt} {x y : Str} {p p' pos : Pos} {mi : MI} {g : MG}
theorem bss_nil : BSs X [] sNext := ⟨_, pss_nil, ss_next⟩
theorem bss_one (h : BS X st m) : BSs X [st] m := let ⟨t, h1, h2⟩ := h; ⟨_, pss_one h1, h2⟩
theorem bss_cons (h : BS X st m) (hr : BSs X sts n) : BSs X (st :: sts) (sSeq m n) := let ⟨t, h1, h2⟩ := h; let ⟨u, h3, h4⟩ := hr; ⟨_, pss_cons h1 h3, ss_seq h2 h4⟩
theorem bss_fgt (is : List Nat) (h : BSs X sts m) : BSs X sts (sFgt is m) := let ⟨t, h1, h2⟩ := h; ⟨_, h1, ss_fgt is h2⟩
theorem bs_fgt (is : List Nat) (h : BS X st m) : BS X st (sFgt is m) := let ⟨t, h1, h2⟩ := h; ⟨_, h1, ss_fgt is h2⟩
theorem bs_if (hc : BT X c mt) (ha : BSs X sts m) (hb : BSs X sts2 n) : BS X (.If c sts sts2 pos) (sIf mt m n) := let ⟨t, h1, h2⟩ := hc; let ⟨u, h3, h4⟩ := ha; let ⟨w, h5, h6⟩ := hb; ⟨_, ps_if h1 h3 h5, ss_if h2 h4 h6⟩
theorem bs_ret (ha : BE X a ma) : BS X (.Return (some a) pos) (sRet ma) := let ⟨t, h1, h2⟩ := ha; ⟨_, ps_ret h1, ss_ret h2⟩
theorem bs_expr (ha : BE X a ma) (hs : swapsWith a none pos.line X.env = pure false := by rfl) : BS X (.Expr a pos) (sExpr ma) := let ⟨t, h1, h2⟩ := ha; ⟨_, ps_expr h1 hs, ss_expr h2⟩
theorem bs_set (i : Nat) (hN : X.N.Nodup) (ha : BE X a ma) (hi : X.N[i]? = some x := by rfl) (hx : Loc X.env.scope x := by first | exact Or.inl rfl | exact Or.inr rfl) (hs : swapsWith a (some (.Name x p')) pos.line X.env = pure false := by rfl)
    (hf : X.fn x = true ∨ X.env.scope.names.lookup x = some .local := by first | exact .inl rfl | exact .inr rfl | assumption) : BS X (.Assign [.Name x p'] a pos) (sAsg ma (Py.gName i)) :=
  let ⟨t, h1, h2⟩ := ha; ⟨_, ps_set hN hi hx h1 hs hf, ss_asg h2 (sg_name i)⟩
theorem bs_asg {tg : Expr} (ha : BE X a ma) (hg : BG X tg g) (hs : swapsWithSole [tg] a pos.line X.env = pure false := by rfl) (hw : swappedStores [tg] a X.env = pure none := by rfl) (h1 : (assignEach [tg] X.env).map (·.2) = [assign tg X.env] := by rfl) : BS X (.Assign [tg] a pos) (sAsg ma g) :=
  let ⟨t, a1, a2⟩ := ha; let ⟨u, g1, g2⟩ := hg; ⟨_, ps_asg a1 g1 hs hw h1, ss_asg a2 g2⟩
theorem bs_par (i j : Nat) {k k2 pt pt2} (hc : X.calm = true) (hN : X.N.Nodup) (ha : BE X a ma) (hb : BE X b mb) (hij : i ≠ j := by decide) (hi : X.N[i]? = some x := by rfl) (hj : X.N[j]? = some y := by rfl) (hx : X.env.scope.names.lookup x = some .local := by rfl) (hy : X.env.scope.names.lookup y = some .local := by rfl)
    (h1 : starEach [a, b] X.env = (false, eval a X.env) :: starEach [b] X.env := by rfl) (h2 : starEach [b] X.env = (false, eval b X.env) :: starEach [] X.env := by rfl)
    (hw : swappedStores [.Tuple [.Name x p, .Name y p'] k pt] (.Tuple [a, b] k2 pt2) X.env = pure (some [x, y]) := by rfl) (hs : swapsWithSole [.Tuple [.Name x p, .Name y p'] k pt] (.Tuple [a, b] k2 pt2) pos.line X.env = pure false := by rfl) :
    BS X (.Assign [.Tuple [.Name x p, .Name y p'] k pt] (.Tuple [a, b] k2 pt2) pos) (sPar i j ma mb) := by
  obtain ⟨t, a1, a2⟩ := ha
  obtain ⟨u, b1, b2⟩ := hb
  exact ⟨_, ps_par hc hN hi hj hij hx hy (pa_cons a1 (pa_cons b1 pa_nil h2) h1) hw hs, ss_par a2 b2⟩
theorem bs_setIx (i : Nat) {e : Expr} {me : M} (ho : PE X (.Name x p) (tVar i)) (he : BE X e me) (ha : BE X a ma) (hs : swapsWithSole [.Subscript (.Name x p) e p'] a pos.line X.env = pure false := by rfl) (hw : swappedStores [.Subscript (.Name x p) e p'] a X.env = pure none := by rfl)
    (h1 : (assignEach [.Subscript (.Name x p) e p'] X.env).map (·.2) = [assign (.Subscript (.Name x p) e p') X.env] := by rfl)
    (hq : ∀ v, assign (.Subscript (.Name x p) e p') X.env v = (do
      let ov ← holding [v] (eval (.Name x p) X.env)
      let iv ← holding [v, ov] (eval e X.env)
      standAt p'
      holding [v, ov, iv] (setItem ov iv v)
      release [v, ov, iv] []) := by intro _; rfl) : BS X (.Assign [.Subscript (.Name x p) e p'] a pos) (sSetIx i me ma) := by
  obtain ⟨t, a1, a2⟩ := ha
  obtain ⟨u, b1, b2⟩ := he
  exact ⟨_, ps_asg a1 (pg_sub ho b1 set_list hq) hs hw h1, ss_setIx a2 b2⟩
structure BGs (X : Cx) (ts : List Expr) (is : List Nat) : Prop where
  ex : PGs X ts (tNames is)
theorem bgs_nil : BGs X [] [] := ⟨pgs_nil⟩
theorem bgs_cons (i : Nat) {ts : List Expr} {is : List Nat} (hN : X.N.Nodup) (hr : BGs X ts is) (hi : X.N[i]? = some x := by rfl) (hx : Loc X.env.scope x := by first | exact Or.inl rfl | exact Or.inr rfl) (hf : X.fn x = true ∨ X.env.scope.names.lookup x = some .local := by first | exact .inl rfl | exact .inr rfl | assumption)
    (hs : (assignEach (.Name x p :: ts) X.env).map (·.2) = assign (.Name x p) X.env :: (assignEach ts X.env).map (·.2) := by rfl) : BGs X (.Name x p :: ts) (i :: is) := ⟨pgs_cons (pg_name hN hi hx hf) hr.ex hs⟩
theorem bg_tup {ts : List Expr} {is : List Nat} {k : Nat} (hc : X.calm = true) (h : BGs X ts is) (hn : (assignEach ts X.env).length = is.length := by rfl) (hst : (assignEach ts X.env).findIdx? (·.1) = none := by rfl) : BG X (.Tuple ts k pos) (Py.gTup is) :=
  ⟨_, pg_tup hc h.ex hn hst, sg_tup rfl⟩
theorem bi_seq {tg : Expr} (ha : BE X a ma) : BI X tg a (iSeq ma) := let ⟨t, h1, h2⟩ := ha; ⟨_, pi_sq h1, si_seq h2⟩
theorem bi_rng1 {tg : Expr} (hg : Gl X "range") (hm : X.mg "range" = none) (ha : BE X a ma) (hs : starEach [a] X.env = [(false, eval a X.env)] := by rfl) (hs' : starEach [a] X.env = (false, eval a X.env) :: starEach [] X.env := by rfl) : BI X tg (.Call (.Name "range" p) [a] [] pos) (Py.iRng1 ma) :=
  let ⟨t, h1, h2⟩ := ha; ⟨_, pi_range1 hg hm (pa_cons h1 pa_nil hs') hs, si_rng1 h2⟩
theorem bi_rng2 {tg : Expr} (hg : Gl X "range") (hm : X.mg "range" = none) (ha : BE X a ma) (hb : BE X b mb) (hs : starEach [a, b] X.env = [(false, eval a X.env), (false, eval b X.env)] := by rfl) (hs2 : starEach [b] X.env = [(false, eval b X.env)] := by rfl)
    (h3 : starEach [a, b] X.env = (false, eval a X.env) :: starEach [b] X.env := by rfl) (h4 : starEach [b] X.env = (false, eval b X.env) :: starEach [] X.env := by rfl) : BI X tg (.Call (.Name "range" p) [a, b] [] pos) (Py.iRng2 ma mb) :=
  let ⟨t, h1, h2⟩ := ha; let ⟨u, h5, h6⟩ := hb; ⟨_, pi_range2 hg hm (pa_cons h1 (pa_cons h5 pa_nil h4) h3) hs hs2, si_rng2 h2 h6⟩
theorem bs_for {tg : Expr} (hp : PassesOwn (model X.prog X.w) X.A X.env X.xe) (hc : X.calm = true) (hi : BI X tg a mi) (hg : BG X tg g) (hb : BSs X sts m) (hs : ∀ x, foldedSetIterable a X.env x = pure x := by intro _; rfl) : BS X (.For tg a sts [] pos) (sFor mi g m) :=
  let ⟨t, h1, h2⟩ := hi; let ⟨u, h3, h4⟩ := hg; let ⟨w, h5, h6⟩ := hb; ⟨_, ps_for hp hc h1 h3 h5 hs, ss_for h2 h4 h6⟩
theorem bs_while (hp : PassesOwn (model X.prog X.w) X.A X.env X.xe) (hc : BT X c mt) (hb : BSs X sts m) : BS X (.While c sts [] pos) (sWhile mt m) :=
  let ⟨t, h1, h2⟩ := hc; let ⟨w, h5, h6⟩ := hb; ⟨_, ps_while hp h1 h5, ss_while h2 h6⟩
end
end Py
/-! Py6: comprehensions; defs and their calls. -/
namespace Py
open PySem PySem.Spec PyProof.Rows L2

/-- the reading that a meaning has of itself -/
def rE (K : PySem.W.Frag) (m : M) : TE := fun σ H Q => ∃ (ρ : Env) (r : R) (ρ' : Env) (Hf : Hp), m ρ = some (r, ρ') ∧ RepE K Hf H ρ σ ∧ ∀ u Hf' H', Step (Own ρ σ) Hf H Hf' H' → RepE K Hf' H' ρ' σ → RepR K Hf' H' H σ r u → Kp ρ ρ' → Q u H'
def rT (K : PySem.W.Frag) (m : MT) : TT := fun σ H Q => ∃ (ρ : Env) (b : Bool) (ρ' : Env) (Hf : Hp), m ρ = some (b, ρ') ∧ RepE K Hf H ρ σ ∧ ∀ Hf' H', Step (Own ρ σ) Hf H Hf' H' → RepE K Hf' H' ρ' σ → Kp ρ ρ' → Q b H'
theorem se_rE {K : PySem.W.Frag} {m : M} : SE K (rE K m) m := fun ρ r ρ' σ Hf H hm E Q q => ⟨ρ, r, ρ', Hf, hm, E, q⟩
theorem st_rT {K : PySem.W.Frag} {m : MT} : ST K (rT K m) m := fun ρ r ρ' σ Hf H hm E Q q => ⟨ρ, r, ρ', Hf, hm, E, q⟩
theorem BE.can {X : Cx} {e : Expr} {m : M} (h : BE X e m) : PE X e (rE X.K m) := by
  obtain ⟨te, h1, h2⟩ := h
  exact ⟨fun pins s σ H Q I ⟨ρ, r, ρ', Hf, hm, E, q⟩ => h1.run pins s σ H Q I (h2 ρ r ρ' σ Hf H hm E Q q)⟩
theorem BT.can {X : Cx} {e : Expr} {m : MT} (h : BT X e m) : PT X e (rT X.K m) := by
  obtain ⟨te, h1, h2⟩ := h
  exact ⟨fun pins s σ H Q I ⟨ρ, r, ρ', Hf, hm, E, q⟩ => h1.run pins s σ H Q I (h2 ρ r ρ' σ Hf H hm E Q q)⟩
structure BTs (X : Cx) (ifs : List Expr) (m : MT) : Prop where
  ex : ∃ tt, PTs X ifs tt ∧ ST X.K tt m
theorem bts_nil {X : Cx} : BTs X [] tYes := ⟨_, pts_nil, fun ρ r ρ' σ Hf H hm E Q q => by cases hm; exact q Hf H (.refl E.ff) E .refl⟩
theorem bts_one {X : Cx} {c : Expr} {m : MT} (h : BT X c m) : BTs X [c] m := let ⟨t, h1, h2⟩ := h; ⟨_, pts_one h1, h2⟩
theorem BTs.can {X : Cx} {e : List Expr} {m : MT} (h : BTs X e m) : PTs X e (rT X.K m) := by
  obtain ⟨te, h1, h2⟩ := h
  exact ⟨fun pins s σ H Q I ⟨ρ, r, ρ', Hf, hm, E, q⟩ => h1.run pins s σ H Q I (h2 ρ r ρ' σ Hf H hm E Q q)⟩

section
variable {K : PySem.W.Frag} {Hf H Hf' H' Hf1 H1 Hf2 H2 H0 : Hp} {ρ ρ' ρ1 ρ2 : Env} {σ σ' σ1 σ2 : L2.St} {O O' O1 : Addr → Prop} {X : Cx}
theorem get_wipe (vs : List Nat) (j : Nat) : get (Py.wipe ρ vs) j = if j ∈ vs then none else get ρ j := by
  induction vs with
  | nil => simp [Py.wipe]
  | cons v vs ih =>
    unfold Py.wipe
    rw [get_set, ih]
    by_cases h : v = j
    · subst h
      by_cases hl : v < (Py.wipe ρ vs).length
      · simp [hl]
      · rw [if_neg (fun z => hl z.2)]
        have : get ρ v = none := by
          have wl : ∀ vs : List Nat, (Py.wipe ρ vs).length = ρ.length := fun vs => by
            induction vs with
            | nil => rfl
            | cons w ws ih => unfold Py.wipe; rw [List.length_set]; exact ih
          rw [wl] at hl
          unfold get
          rw [List.getElem?_eq_none (by omega)]
          rfl
        simp [this]
    · rw [if_neg (fun z => h z.1)]
      simp only [List.mem_cons]
      by_cases hj : j ∈ vs
      · simp [hj]
      · simp [hj, Ne.symm h]
theorem wipe_len (vs : List Nat) : (Py.wipe ρ vs).length = ρ.length := by
  induction vs with
  | nil => rfl
  | cons w ws ih => unfold Py.wipe; rw [List.length_set]; exact ih
theorem slot_wipe (vs : List Nat) (j : Nat) : slot (L2.wipe σ vs) j = if j ∈ vs then none else slot σ j := by
  induction vs with
  | nil => simp [L2.wipe]
  | cons v vs ih =>
    unfold L2.wipe
    rw [slot_set, ih]
    by_cases h : v = j
    · subst h
      by_cases hl : v < (L2.wipe σ vs).length
      · simp [hl]
      · rw [if_neg (fun z => hl z.2)]
        have : slot σ v = none := by
          rw [wipe_length] at hl
          unfold slot
          rw [List.getElem?_eq_none (by omega)]
          rfl
        simp [this]
    · rw [if_neg (fun z => h z.1)]
      simp only [List.mem_cons]
      by_cases hj : j ∈ vs
      · simp [hj]
      · simp [hj, Ne.symm h]
theorem RepE.wipe (E : RepE K Hf H ρ σ) (vs : List Nat) : RepE K Hf H (Py.wipe ρ vs) (L2.wipe σ vs) := by
  have sub : ∀ j p, OwnAt (Py.wipe ρ vs) (L2.wipe σ vs) j p → OwnAt ρ σ j p := fun j p ⟨a, b⟩ => by
    rw [get_wipe] at a
    rw [slot_wipe] at b
    by_cases hj : j ∈ vs
    · rw [if_pos hj] at a; cases a
    · rw [if_neg hj] at a b; exact ⟨a, b⟩
  refine ⟨by rw [wipe_len, wipe_length]; exact E.len, E.ff, fun j s e => ?_, fun j k p a b => E.dis j k p (sub j p a) (sub k p b)⟩
  rw [get_wipe] at e
  rw [slot_wipe]
  by_cases hj : j ∈ vs
  · rw [if_pos hj] at e; cases e
  · rw [if_neg hj] at e ⊢; exact E.sl j s e
theorem wipe_get? (σ : L2.St) (vs : List Nat) (j : Nat) : (L2.wipe σ vs)[j]? = if j ∈ vs ∧ j < σ.length then some none else σ[j]? := by
  induction vs with
  | nil => simp [L2.wipe]
  | cons v vs ih =>
    unfold L2.wipe
    by_cases h : v = j
    · subst h
      by_cases hl : v < σ.length
      · rw [List.getElem?_set_self (by rw [wipe_length]; exact hl)]; simp [hl]
      · rw [List.getElem?_eq_none (by rw [List.length_set, wipe_length]; omega)]; simp [hl]
    · rw [List.getElem?_set_ne h, ih]
      simp [Ne.symm h]
/-- a target of a comprehension: it stores at the block's own names alone -/
structure TgIn (g : TG) (mg : MG) (vs : List Nat) : Prop where
  a : ∀ u σ H Q, g u σ H Q → g u σ H fun σ2 H2 => Q σ2 H2 ∧ L2.wipe σ2 vs = L2.wipe σ vs
  b : ∀ v ρ ρ', mg (.val v) ρ = some ρ' → ∀ j, j ∉ vs → get ρ' j = get ρ j
  c : ∀ u σ H (Q Q' : L2.St → Hp → Prop), (∀ σ2 H2, Q σ2 H2 → Q' σ2 H2) → g u σ H Q → g u σ H Q'
theorem wipe_set {vs : List Nat} {i : Nat} (h : i ∈ vs) (x : Option V) : L2.wipe (σ.set i x) vs = L2.wipe σ vs := by
  apply List.ext_getElem?
  intro j
  rw [wipe_get?, wipe_get?, List.length_set]
  by_cases hj : j ∈ vs ∧ j < σ.length
  · rw [if_pos hj, if_pos hj]
  · rw [if_neg hj, if_neg hj]
    by_cases e : i = j
    · subst e
      have : ¬ i < σ.length := fun z => hj ⟨h, z⟩
      rw [List.getElem?_eq_none (by rw [List.length_set]; omega), List.getElem?_eq_none (by omega)]
    · rw [List.getElem?_set_ne e]
theorem tgIn_name {i : Nat} {vs : List Nat} (h : i ∈ vs) : TgIn (L2.gName i) (Py.gName i) vs := ⟨fun u σ H Q q => ⟨q, wipe_set h _⟩, fun v ρ ρ' hm j hj => by
  have hm' : put i (some (.val v)) ρ = some ρ' := hm
  unfold put at hm'
  split at hm'
  · cases hm'
  · cases hm'
    rw [get_set, if_neg]
    rintro ⟨rfl, _⟩
    exact hj h, fun u σ H Q Q' h q => h _ _ q⟩
/-- one object, which is nobody's, is laid or changed -/
theorem Step.at {D : Addr} {o : HO} (e : Ex Hf H) (f : Hf D = none) : Step (fun a => a = D) Hf H Hf (upd H D o) := by
  refine ⟨fun _ _ h => h, fun a u h => by rw [upd_ne (ne_of_none h f)]; exact e a u h, fun a u h n => by rw [upd_ne n]; exact h, fun _ _ _ _ => rfl, fun a u h => ?_⟩
  by_cases z : a = D
  · subst z; exact ⟨_, upd_same⟩
  · exact ⟨u, by rw [upd_ne z]; exact h⟩
/-- what a comprehension's turns leave of the names -/
def Nm (vs : List Nat) (ρ1 ρ2 : Env) : Prop := ρ2.length = ρ1.length ∧ ∀ j, j ∉ vs → (isOb (get ρ2 j) = true → isOb (get ρ1 j) = true) ∧ isRef (get ρ2 j) = isRef (get ρ1 j)
theorem own_wipe {vs : List Nat} (n : Nm vs ρ1 ρ2) {p : Addr} (h : Own (Py.wipe ρ2 vs) (L2.wipe σ vs) p) : Own (Py.wipe ρ1 vs) (L2.wipe σ vs) p := by
  obtain ⟨j, a, b⟩ := h
  refine ⟨j, ?_, b⟩
  rw [get_wipe] at a ⊢
  by_cases hj : j ∈ vs
  · rw [if_pos hj] at a; cases a
  · rw [if_neg hj] at a ⊢; exact (n.2 j hj).1 a
structure LcS (K : PySem.W.Frag) (Hf1 H1 : Hp) (ρ1 : Env) (σ : L2.St) (vs : List Nat) (D : Addr) (n : Nat) (done : List PV) (ρ2 : Env) (Hf2 H2 : Hp) : Prop where
  acc : ∃ us, H2 D = some (.lst us) ∧ DpAll K Hf2 us done
  few : done.length ≤ n
  fd : Hf2 D = none
  st : Step (Own (Py.wipe ρ1 vs) (L2.wipe σ vs)) Hf1 H1 Hf2 H2
  en : RepE K Hf2 H2 (Py.wipe ρ2 vs) (L2.wipe σ vs)
  nm : Nm vs ρ1 ρ2
theorem get_back (vs : List Nat) (j : Nat) (ρ0 : Env) : get (back ρ0 vs ρ) j = if j ∈ vs ∧ j < ρ.length then get ρ0 j else get ρ j := by
  have bl : ∀ vs : List Nat, (back ρ0 vs ρ).length = ρ.length := fun vs => by
    induction vs with
    | nil => rfl
    | cons v vs ih => unfold back; rw [List.length_set]; exact ih
  induction vs with
  | nil => simp [back]
  | cons v vs ih =>
    unfold back
    rw [get_set, ih, bl]
    by_cases h : v = j
    · subst h
      by_cases hl : v < ρ.length
      · simp [hl]
      · simp [hl]
    · rw [if_neg (fun z => h z.1)]
      simp only [List.mem_cons, Ne.symm h, false_or]
theorem back_len (vs : List Nat) (ρ0 : Env) : (back ρ0 vs ρ).length = ρ.length := by
  induction vs with
  | nil => rfl
  | cons v vs ih => unfold back; rw [List.length_set]; exact ih
/-- behind the comprehension -/
theorem lc_end {vs : List Nat} {D : Addr} {n : Nat} {done : List PV} (E1 : RepE K Hf1 H1 ρ1 σ) (hD : H1 D = none) (L : LcS K Hf1 H1 ρ1 σ vs D n done ρ2 Hf2 H2) :
    Bh K Hf1 H1 ρ1 σ Hf2 H2 (back ρ1 vs ρ2) ∧ RepR K Hf2 H2 H1 σ (.new (.lst done)) (.ref D) := by
  obtain ⟨us, h1, h2⟩ := L.acc
  have wsub : ∀ p, Own (Py.wipe ρ1 vs) (L2.wipe σ vs) p → ∃ j, j ∉ vs ∧ OwnAt ρ1 σ j p := fun p ⟨j, a, b⟩ => by
    rw [get_wipe] at a
    rw [slot_wipe] at b
    by_cases hj : j ∈ vs
    · rw [if_pos hj] at a; cases a
    · rw [if_neg hj] at a b; exact ⟨j, hj, a, b⟩
  have gb : ∀ j, get (back ρ1 vs ρ2) j = if j ∈ vs then get ρ1 j else get ρ2 j := fun j => by
    rw [get_back]
    by_cases hj : j ∈ vs
    · by_cases hl : j < ρ2.length
      · rw [if_pos ⟨hj, hl⟩, if_pos hj]
      · rw [if_neg (fun z => hl z.2), if_pos hj]
        have l1 : ¬ j < ρ1.length := by rw [← L.nm.1]; exact hl
        unfold get
        rw [List.getElem?_eq_none (by omega), List.getElem?_eq_none (by omega)]
    · rw [if_neg (fun z => hj z.1), if_neg hj]
  have ob : ∀ j, isOb (get (back ρ1 vs ρ2) j) = true → isOb (get ρ1 j) = true := fun j h => by
    rw [gb] at h
    by_cases hj : j ∈ vs
    · rw [if_pos hj] at h; exact h
    · rw [if_neg hj] at h; exact (L.nm.2 j hj).1 h
  refine ⟨⟨L.st.weak fun p hp => .inl (let ⟨j, _, h⟩ := wsub p hp; ⟨j, h⟩), ⟨?_, L.en.ff, fun j s e => ?_, fun j k p a b => E1.dis j k p ⟨ob j a.1, a.2⟩ ⟨ob k b.1, b.2⟩⟩, ⟨ob, fun j => ?_⟩⟩, ⟨D, rfl, hD, L.fd, us, h1, h2⟩⟩
  · rw [back_len, L.nm.1]; exact E1.len
  · rw [gb] at e
    by_cases hj : j ∈ vs
    · rw [if_pos hj] at e
      obtain ⟨u, a, b⟩ := E1.sl j s e
      refine ⟨u, a, b.step L.st fun p ho hu hp => ?_⟩
      obtain ⟨k, hk, ok⟩ := wsub p hp
      have : j = k := E1.dis j k p ⟨by rw [e]; exact ho, by rw [a, hu]⟩ ok
      exact hk (this ▸ hj)
    · rw [if_neg hj] at e
      have e' : get (Py.wipe ρ2 vs) j = some s := by rw [get_wipe, if_neg hj]; exact e
      obtain ⟨u, a, b⟩ := L.en.sl j s e'
      rw [slot_wipe, if_neg hj] at a
      exact ⟨u, a, b⟩
  · rw [gb]
    by_cases hj : j ∈ vs
    · rw [if_pos hj]
    · rw [if_neg hj]; exact (L.nm.2 j hj).2
theorem lc_turn {g : TG} {mg : MG} {tt : TT} {te : TE} {t : MT} {e : M} {vs : List Nat} {D : Addr} {n : Nat} {done ys : List PV} {x : PV} {u : V} {ρ3 : Env} (hg : SG K g mg) (hv : TgIn g mg vs) (ht : ST K tt t) (he : SE K te e) (hD : H1 D = none) (E1 : RepE K Hf1 H1 ρ1 σ)
    (hz : n < line) (L : LcS K Hf1 H1 ρ1 σ vs D n done ρ2 Hf2 H2) (hx : Dp K Hf2 u x) (hm : lcTurn mg vs t e x ρ2 = some (ys, ρ3)) {Nx : Hp → Prop} (hN : ∀ Hf3 H3, LcS K Hf1 H1 ρ1 σ vs D (n + 1) (done ++ ys) ρ3 Hf3 H3 → Nx H3) :
    g u (L2.wipe σ vs) H2 fun σ2 H3 => L2.wipe σ2 vs = L2.wipe σ vs ∧ tt σ2 H3 fun b H4 =>
      if b = true then te σ2 H4 fun y H5 => ∃ acc, H5 D = some (.lst acc) ∧ acc.length < sizeLine ∧ Nx (upd H5 D (.lst (acc ++ [y]))) else Nx H4 := by
  simp only [lcTurn, Option.bind_eq_some_iff] at hm
  obtain ⟨ρ4, e1, ⟨b, ρ5⟩, e2, e3⟩ := hm
  have ww : L2.wipe (L2.wipe σ vs) vs = L2.wipe σ vs := by
    apply List.ext_getElem?
    intro j
    rw [wipe_get?, wipe_length, wipe_get?]
    by_cases hj : j ∈ vs ∧ j < σ.length <;> simp [hj]
  have kn : ∀ q, Own (Py.wipe ρ2 vs) (L2.wipe σ vs) q → H2 q ≠ none := fun q hq z => by
    obtain ⟨⟨o, ho⟩, _⟩ := L.en.there hq
    rw [z] at ho; cases ho
  have g1 : g u (L2.wipe σ vs) H2 fun σ4 H3 => H3 = H2 ∧ ∃ Hf4, BhG K Hf2 H2 H2 (Py.wipe ρ2 vs) (L2.wipe σ vs) Hf4 ρ4 σ4 := hg (.val x) (Py.wipe ρ2 vs) ρ4 (L2.wipe σ vs) Hf2 H2 H2 u e1 L.en hx kn _ fun σ4 Hf4 B4 => ⟨rfl, Hf4, B4⟩
  refine hv.c u _ _ _ _ ?_ (hv.a u _ _ _ g1)
  rintro σ4 H3 ⟨⟨rfl, Hf4, B4⟩, w4⟩
  rw [ww] at w4
  refine ⟨w4, ?_⟩
  obtain ⟨us, hus, dus⟩ := L.acc
  -- the new list is none of the names' objects
  have own4 : ∀ p, Own ρ4 σ4 p → Own (Py.wipe ρ1 vs) (L2.wipe σ vs) p ∨ H1 p = none ∧ H3 p = none := fun p hp => by
    rcases B4.own p hp with z | z
    · exact .inl (own_wipe L.nm z)
    · exact .inr ⟨L.st.fresh z, z⟩
  have nD1 : ¬ Own (Py.wipe ρ1 vs) (L2.wipe σ vs) D := fun ⟨j, a, b⟩ => by
    rw [get_wipe] at a
    rw [slot_wipe] at b
    by_cases hj : j ∈ vs
    · rw [if_pos hj] at a; cases a
    · rw [if_neg hj] at a b
      obtain ⟨⟨o, ho⟩, _⟩ := E1.there ⟨j, a, b⟩
      rw [hD] at ho; cases ho
  have nD4 : ¬ Own ρ4 σ4 D := fun h => by
    rcases own4 D h with z | ⟨_, z⟩
    · exact nD1 z
    · rw [hus] at z; cases z
  have nm4 : ∀ j, j ∉ vs → get ρ4 j = get ρ2 j := fun j hj => by rw [hv.b x _ _ e1 j hj, get_wipe, if_neg hj]
  have len4 : ρ4.length = ρ1.length := by
    rw [B4.en.len, ← wipe_length σ4 vs, w4, wipe_length, ← E1.len]
  have st4 : Step (Own (Py.wipe ρ1 vs) (L2.wipe σ vs)) Hf1 H1 Hf4 H3 := L.st.trans B4.st fun p hp => by
    rcases hp with z | z
    · exact .inl (own_wipe L.nm z)
    · exact .inr (L.st.fresh z)
  have fd4 : Hf4 D = none := by rw [B4.st.nof D _ hus (fun z => by rcases z with z | z; exact nD1 (own_wipe L.nm z); rw [hus] at z; cases z)]; exact L.fd
  -- behind what was evaluated in the block
  have fin : ∀ {Hf5 H5 : Hp} {ρ5 : Env}, Bh K Hf4 H3 ρ4 σ4 Hf5 H5 ρ5 → Step (Own (Py.wipe ρ1 vs) (L2.wipe σ vs)) Hf1 H1 Hf5 H5 ∧ RepE K Hf5 H5 (Py.wipe ρ5 vs) (L2.wipe σ vs) ∧ Nm vs ρ1 ρ5 ∧ H5 D = some (.lst us) ∧ Hf5 D = none ∧ DpAll K Hf5 us done := fun {Hf5 H5 ρ5} B => by
    refine ⟨st4.trans B.st fun p hp => (own4 p hp).imp id (·.1), ?_, ⟨?_, fun j hj => ⟨fun h => ?_, ?_⟩⟩, B.st.keep D _ hus nD4, ?_, dps_mono B.st.ff _ _ (dps_mono B4.st.ff _ _ dus)⟩
    · have := B.en.wipe vs
      rw [w4] at this
      exact this
    · rw [B.en.len, ← B4.en.len]; exact len4
    · have h4 := B.kp.own j h
      rw [nm4 j hj] at h4
      exact (L.nm.2 j hj).1 h4
    · rw [B.kp.ref j, nm4 j hj]; exact (L.nm.2 j hj).2
    · rw [B.st.nof D _ hus nD4]; exact fd4
  refine ht ρ4 b ρ5 σ4 Hf4 H3 e2 B4.en _ fun Hf5 H5 S5 E5 k5 => ?_
  have B5 : Bh K Hf4 H3 ρ4 σ4 Hf5 H5 ρ5 := ⟨S5, E5, k5⟩
  cases b with
  | false =>
    simp only [Bool.false_eq_true, if_false] at e3 ⊢
    cases e3
    obtain ⟨f1, f2, f3, f4, f5, f6⟩ := fin B5
    rw [List.append_nil] at hN
    exact hN Hf5 H5 ⟨⟨us, f4, f6⟩, Nat.le_succ_of_le L.few, f5, f1, f2, f3⟩
  | true =>
    simp only [if_true, Option.bind_eq_some_iff, Option.map_eq_some_iff, Prod.mk.injEq] at e3 ⊢
    obtain ⟨⟨r, ρ6⟩, e4, ⟨v, ρ7⟩, e5, rfl, rfl⟩ := e3
    refine he ρ5 r ρ6 σ4 Hf5 H5 e4 E5 _ fun y Hf6 H6 S6 E6 R6 k6 => ?_
    have B6 : Bh K Hf5 H5 ρ5 σ4 Hf6 H6 ρ6 := ⟨S6, E6, k6⟩
    obtain ⟨Hf7, B7, d7⟩ := B6.frz E5 R6 e5
    obtain ⟨f1, f2, f3, f4, f5, f6⟩ := fin (B5.trans B7)
    have lu : us.length = done.length := dps_len f6
    have st := Step.at (o := .lst (us ++ [y])) f2.ff f5
    refine ⟨us, f4, by rw [← line_eq, lu]; exact Nat.lt_of_le_of_lt L.few hz, hN Hf7 _ ⟨⟨us ++ [y], upd_same, dps_app f6 (.cons d7 .nil)⟩, by rw [List.length_append]; exact Nat.succ_le_succ L.few, f5, f1.trans st fun p hp => .inr (by rw [hp]; exact hD), f2.step st fun p hp z => ?_, f3⟩⟩
    rw [z] at hp
    exact nD1 (own_wipe f3 hp)
theorem lcF_some {f : PV → Env → Option (List PV × Env)} {x : PV} {xs : List PV} {z : List PV × Env} (h : lcF f (x :: xs) ρ = some z) : ∃ ys ρ2 zs, f x ρ = some (ys, ρ2) ∧ lcF f xs ρ2 = some (zs, z.2) ∧ z.1 = ys ++ zs := by
  simp only [lcF, Option.bind_eq_some_iff, Option.map_eq_some_iff] at h
  obtain ⟨⟨ys, ρ2⟩, e1, ⟨zs, ρ3⟩, e2, rfl⟩ := h
  exact ⟨ys, ρ2, zs, e1, e2, rfl⟩
theorem se_lc {wi : TI} {g : TG} {tt : TT} {te : TE} {it : MI} {mg : MG} {t : MT} {e : M} (vs : List Nat) (hi : SI K wi it) (hg : SG K g mg) (hv : TgIn g mg vs) (ht : ST K tt t) (he : SE K te e) : SE K (tLc wi g tt te vs) (mLc it mg vs t e) := by
  intro ρ r ρ' σ Hf H hm E Q q
  simp only [mLc, Option.bind_eq_some_iff] at hm
  obtain ⟨⟨xs, ρ1⟩, e1, e2⟩ := hm
  split at e2
  · rename_i hz
    simp only [Option.map_eq_some_iff, Prod.mk.injEq] at e2
    obtain ⟨⟨total, ρe⟩, e3, rfl, rfl⟩ := e2
    refine hi ρ xs ρ1 σ Hf H e1 E _ fun J Hf1 H1 B1 w => ?_
    intro D hD
    have fD : Hf1 D = none := by
      cases z : Hf1 D with
      | none => rfl
      | some o => have := B1.en.ff D o z; rw [hD] at this; cases this
    have st0 := Step.at (o := .lst []) B1.en.ff fD
    have wsub : ∀ p, Own (Py.wipe ρ1 vs) (L2.wipe σ vs) p → Own ρ1 σ p := fun p ⟨j, a, b⟩ => by
      rw [get_wipe] at a
      rw [slot_wipe] at b
      by_cases hj : j ∈ vs
      · rw [if_pos hj] at a; cases a
      · rw [if_neg hj] at a b; exact ⟨j, a, b⟩
    refine ⟨fun i m H2 => m = xs.length - i ∧ i ≤ xs.length ∧ ∃ ρ2 Hf2 done rest, lcF (lcTurn mg vs t e) (xs.drop i) ρ2 = some (rest, ρe) ∧ total = done ++ rest ∧ LcS K Hf1 H1 ρ1 σ vs D i done ρ2 Hf2 H2,
      ⟨_, rfl, Nat.zero_le _, ρ1, Hf1, [], total, e3, rfl, ⟨⟨[], upd_same, .nil⟩, Nat.le_refl _, fD, st0.weak fun p hp => .inr (by rw [hp]; exact hD), ?_, rfl, fun j _ => ⟨id, rfl⟩⟩⟩, ?_⟩
    · refine (B1.en.wipe vs).step st0 fun p hp z => ?_
      obtain ⟨⟨o, ho⟩, _⟩ := B1.en.there (wsub p hp)
      rw [z, hD] at ho; cases ho
    · rintro i m H2 ⟨rfl, hi', ρ2, Hf2, done, rest, h1, rfl, L⟩
      obtain ⟨w1, w2⟩ := w Hf2 H2 (L.st.weak fun p hp => .inl (wsub p hp)) i
      cases hd : xs.drop i with
      | nil =>
        rw [hd] at h1
        cases h1
        have hle : xs.length ≤ i := by
          have := congrArg List.length hd
          rw [List.length_drop, List.length_nil] at this
          omega
        refine .inl ⟨w2 hle, ?_⟩
        obtain ⟨Be, Re⟩ := lc_end B1.en hD L
        rw [List.append_nil] at q
        have B := B1.trans Be
        exact q _ Hf2 H2 B.st B.en (Re.back fun p hp => B1.fresh hp) B.kp
      | cons x xr =>
        rw [hd] at h1
        obtain ⟨hx, hr⟩ := drop_get hd
        have hlt : i < xs.length := (List.getElem?_eq_some_iff.mp hx).1
        obtain ⟨go, yl⟩ := w1 x hx
        obtain ⟨ys, ρ3, zs, t1, t2, t3⟩ := lcF_some h1
        have t3' : rest = ys ++ zs := t3
        subst t3'
        refine .inr ⟨go, fun H' => ∃ Hf3, LcS K Hf1 H1 ρ1 σ vs D (i + 1) (done ++ ys) ρ3 Hf3 H', fun H' ⟨Hf3, L3⟩ => ⟨_, by omega, rfl, hlt, ρ3, Hf3, done ++ ys, zs, by rw [hr]; exact t2, by rw [List.append_assoc], L3⟩, fun u H3 hy => ?_⟩
        obtain ⟨rfl, du⟩ := yl u H3 hy
        exact lc_turn hg hv ht he hD B1.en (Nat.lt_of_lt_of_le hlt hz) L du t1 fun Hf3 H4 L3 => ⟨Hf3, L3⟩
  · cases e2
end
section
variable {X : Cx} {elt tg iter : Expr} {ifs : List Expr} {scope : Scope} {pos : Pos} {mi : MI} {mt : MT} {me : M} {x y : Str} {p : Pos}
/-- [elt for x in iter if ..] -/
theorem be_lcN (i : Nat) (own : List (Str × Nat)) (hc : X.calm = true) (hN : X.N.Nodup) (hi : BI X (.Name x p) iter mi) (ok : blkC X.N X.env.scope scope own = true) (hm : i ∈ own.map (·.2)) (hx : X.N[i]? = some x)
    (hg : ∀ (s : Shared) (H : Hp) (C : Addr) (cl : List (Str × Addr)) (fp : List Addr), PG (X.blk s H scope (compEnvC scope cl C X.env) fp) (.Name x p) (L2.gName i))
    (ht : ∀ (s : Shared) (H : Hp) (C : Addr) (cl : List (Str × Addr)) (fp : List Addr), BTs (X.blk s H scope (compEnvC scope cl C X.env) fp) ifs mt)
    (he : ∀ (s : Shared) (H : Hp) (C : Addr) (cl : List (Str × Addr)) (fp : List Addr), BE (X.blk s H scope (compEnvC scope cl C X.env) fp) elt me) (hs : ∀ x, foldedSetIterable iter X.env x = pure x := by intro _; rfl) :
    BE X (.ListComp elt [⟨.Name x p, iter, ifs, 0⟩] scope pos) (mLc mi (Py.gName i) (own.map (·.2)) mt me) := by
  obtain ⟨wi, h1, h2⟩ := hi
  exact ⟨_, pe_lc hc hN h1 (blkOk_by ok) hg (fun s H C cl fp => (ht s H C cl fp).can) (fun s H C cl fp => (he s H C cl fp).can) hs, se_lc _ h2 (sg_name i) (tgIn_name hm) st_rT se_rE⟩
theorem bs_setLcN (j : Nat) (i : Nat) (own : List (Str × Nat)) {py spos : Pos} (hc : X.calm = true) (hN : X.N.Nodup) (hj : X.N[j]? = some y) (hyl : X.env.scope.names.lookup y = some .local) (hi : BI X (.Name x p) iter mi) (ok : blkC X.N X.env.scope scope own = true) (hm : i ∈ own.map (·.2)) (hx : X.N[i]? = some x)
    (hsw : swapsWith (.ListComp elt [⟨.Name x p, iter, ifs, 0⟩] scope pos) (some (.Name y py)) spos.line X.env = pure true)
    (hg : ∀ (s : Shared) (H : Hp) (C : Addr) (cl : List (Str × Addr)) (fp : List Addr), PG (X.blk s H scope (compEnvC scope cl C X.env) fp) (.Name x p) (L2.gName i))
    (ht : ∀ (s : Shared) (H : Hp) (C : Addr) (cl : List (Str × Addr)) (fp : List Addr), BTs (X.blk s H scope (compEnvC scope cl C X.env) fp) ifs mt)
    (he : ∀ (s : Shared) (H : Hp) (C : Addr) (cl : List (Str × Addr)) (fp : List Addr), BE (X.blk s H scope (compEnvC scope cl C X.env) fp) elt me) (hs : ∀ x, foldedSetIterable iter X.env x = pure x := by intro _; rfl) :
    BS X (.Assign [.Name y py] (.ListComp elt [⟨.Name x p, iter, ifs, 0⟩] scope pos) spos) (sAsg (mLc mi (Py.gName i) (own.map (·.2)) mt me) (Py.gName j)) := by
  obtain ⟨wi, h1, h2⟩ := hi
  exact ⟨_, ps_setLc hc hN hj hyl hsw h1 (blkOk_by ok) hg (fun s H C cl fp => (ht s H C cl fp).can) (fun s H C cl fp => (he s H C cl fp).can) hs, ss_asg (se_lc _ h2 (sg_name i) (tgIn_name hm) st_rT se_rE) (sg_name j)⟩
end
end Py
/-! Py7: defs and their calls. -/
namespace Py
open PySem PySem.Spec PyProof.Rows L2

/-- the objects handed on, behind the call -/
def OutsOk (K : PySem.W.Frag) (Hf H : Hp) : List Sl → List V → List Ob → Prop
  | [], [], [] => True
  | .ref _ :: as, v :: vs, o :: os => (∃ p, v = .ref p ∧ Hf p = none ∧ RepOb K Hf H p o) ∧ OutsOk K Hf H as vs os
  | .val _ :: as, _ :: vs, os => OutsOk K Hf H as vs os
  | _, _, _ => False
def notOwn : Sl → Bool
  | .own _ => false
  | _ => true
/-- what a def of this meaning promises -/
def spOf (K : PySem.W.Frag) (n : Nat) (d : Den) : Sp := fun vs H Q _ => vs.length = n ∧ ∃ (Hf : Hp) (as : List Sl) (r : R) (os : List Ob), d as = some (r, os) ∧ as.all notOwn = true ∧ RepE K Hf H (as.map some) (vs.map some) ∧
  ∀ u Hf' H', Step (Own (as.map some) (vs.map some)) Hf H Hf' H' → RepR K Hf' H' H [] r u → OutsOk K Hf' H' as vs os → Q u H'
theorem get_map (as : List Sl) (i : Nat) : get (as.map some) i = as[i]? := by
  unfold get
  rw [List.getElem?_map]
  cases as[i]? <;> rfl
theorem slot_map (vs : List V) (i : Nat) : slot (vs.map some) i = vs[i]? := by
  unfold slot
  rw [List.getElem?_map]
  cases vs[i]? <;> rfl
section
variable {K : PySem.W.Frag} {Hf H Hf' H' Hf1 H1 Hf2 H2 H0 : Hp} {ρ ρ' ρ1 ρ2 : Env} {σ σ' σ1 σ2 : L2.St} {O O' O1 : Addr → Prop} {X : Cx}
theorem get_start (n : Nat) (as : List Sl) (i : Nat) : get (startE n as) i = as[i]? := by
  unfold startE get
  by_cases h : i < as.length
  · rw [List.getElem?_append_left (by simpa using h), List.getElem?_map]
    cases as[i]? <;> rfl
  · rw [List.getElem?_append_right (by simpa using h), List.getElem?_eq_none (l := as) (by omega)]
    by_cases h2 : i - (as.map some).length < n - as.length
    · rw [List.getElem?_replicate, if_pos h2]; rfl
    · rw [List.getElem?_replicate, if_neg h2]; rfl
theorem slot_start (N : List Str) (vs : List V) (i : Nat) : slot (L2.start N vs) i = vs[i]? := by
  unfold L2.start slot
  by_cases h : i < vs.length
  · rw [List.getElem?_append_left (by simpa using h), List.getElem?_map]
    cases vs[i]? <;> rfl
  · rw [List.getElem?_append_right (by simpa using h), List.getElem?_eq_none (l := vs) (by omega)]
    by_cases h2 : i - (vs.map some).length < N.length - vs.length
    · rw [List.getElem?_replicate, if_pos h2]; rfl
    · rw [List.getElem?_replicate, if_neg h2]; rfl
theorem start_len {as : List Sl} {vs : List V} (N : List Str) (h : as.length = vs.length) : (startE N.length as).length = (L2.start N vs).length := by
  unfold startE L2.start
  simp [h]
theorem rep_start {as : List Sl} {vs : List V} (N : List Str) (E : RepE K Hf H (as.map some) (vs.map some)) : RepE K Hf H (startE N.length as) (L2.start N vs) ∧ ∀ i p, OwnAt (startE N.length as) (L2.start N vs) i p ↔ OwnAt (as.map some) (vs.map some) i p := by
  have hl : as.length = vs.length := by simpa using E.len
  have eq : ∀ i p, OwnAt (startE N.length as) (L2.start N vs) i p ↔ OwnAt (as.map some) (vs.map some) i p := fun i p => by
    unfold OwnAt
    rw [get_start, slot_start, get_map, slot_map]
  refine ⟨⟨start_len N hl, E.ff, fun i s e => ?_, fun i j p a b => E.dis i j p ((eq i p).mp a) ((eq j p).mp b)⟩, eq⟩
  rw [get_start, ← get_map] at e
  rw [slot_start, ← slot_map]
  exact E.sl i s e
theorem outs_ok : ∀ (as : List Sl) (vs : List V) (os : List Ob) (ρ' : Env) (σ' : L2.St), as.all notOwn = true → as.length = vs.length → outs as ρ' = some os → (∀ i s, get ρ' i = some s → ∃ u, slot σ' i = some u ∧ RepSl K Hf' H' s u) →
    (∀ i o, as[i]? = some (.ref o) → slot σ' i = vs[i]?) → OutsOk K Hf' H' as vs os
  | [], [], os, ρ', σ', _, _, h, _, _ => by cases h; trivial
  | [], _ :: _, _, _, _, _, hl, _, _, _ => by cases hl
  | _ :: _, [], _, _, _, _, hl, _, _, _ => by cases hl
  | .own o :: as, v :: vs, os, ρ', σ', ho, _, _, _, _ => by simp [notOwn] at ho
  | .val x :: as, v :: vs, os, ρ', σ', ho, hl, h, E, hs => by
    cases ρ' with
    | nil => cases h
    | cons s ρ' =>
      have h' : outs as ρ' = some os := h
      have e1 : ∀ i, get ρ' i = get (s :: ρ') (i + 1) := fun i => rfl
      have e2 : ∀ i, slot σ'.tail i = slot σ' (i + 1) := fun i => by cases σ' <;> simp [slot]
      refine outs_ok as vs os ρ' σ'.tail (by simpa [notOwn] using ho) (by simpa using hl) h' (fun i t e => ?_) fun i o e => ?_
      · rw [e1] at e
        rw [e2]
        exact E _ t e
      · rw [e2, hs (i + 1) o e]; rfl
  | .ref x :: as, v :: vs, os, ρ', σ', ho, hl, h, E, hs => by
    cases ρ' with
    | nil => cases h
    | cons s ρ' =>
      cases s with
      | none => cases h
      | some s =>
        cases s with
        | val w => cases h
        | own w => cases h
        | lck w => cases h
        | ref w =>
          have h' : (outs as ρ').map (w :: ·) = some os := h
          rw [Option.map_eq_some_iff] at h'
          obtain ⟨os', h1, rfl⟩ := h'
          have e1 : ∀ i, get ρ' i = get (some (.ref w) :: ρ') (i + 1) := fun i => rfl
          have e2 : ∀ i, slot σ'.tail i = slot σ' (i + 1) := fun i => by cases σ' <;> simp [slot]
          refine ⟨?_, outs_ok as vs os' ρ' σ'.tail (by simpa [notOwn] using ho) (by simpa using hl) h1 (fun i t e => ?_) fun i o e => ?_⟩
          · obtain ⟨u, s1, r1⟩ := E 0 (.ref w) rfl
            rw [hs 0 x rfl] at s1
            cases s1
            exact r1
          · rw [e1] at e
            rw [e2]
            exact E _ t e
          · rw [e2, hs (i + 1) o e]; rfl
theorem leave_ok {r r' : R} {u : V} (E : RepE K Hf' H' ρ' σ') (R1 : RepR K Hf' H' H σ' r u) (hl : leave r ρ' = some r') (nw : ∀ i o p, get ρ' i = some (.own o) → slot σ' i = some (.ref p) → H p = none) : RepR K Hf' H' H [] r' u := by
  cases r with
  | val v => cases hl; exact R1
  | new o => cases hl; exact R1
  | bor i =>
    have R1' : slot σ' i = some u := R1
    cases g : get ρ' i with
    | none => simp only [leave, g] at hl; cases hl
    | some s =>
      simp only [leave, g] at hl
      obtain ⟨u', h1, h2⟩ := E.sl i s g
      rw [R1'] at h1
      cases h1
      cases s with
      | val v => cases hl; exact h2
      | own o => cases hl; obtain ⟨p, rfl, f, rp⟩ := h2; exact ⟨p, rfl, nw i o p g R1', f, rp⟩
      | ref o => cases hl
      | lck kvs => cases hl
/-- what a body has at hand -/
structure Cok (X : Cx) (k : Nat) : Prop where
  calm : X.calm = true
  nd : X.N.Nodup
  pass : PassesOwn (model X.prog X.w) X.A X.env X.xe
  div : DivOk X
  units : X.A.units + 64 < cLine
  unitsD : X.A.units + 65 < cLine
  room : Room k X.A
/-- THE RULE for a def: its body's meaning is its own -/
theorem ok_of {P : Program} {w : World} {mg : Str → Option Value} {base : Heap} {x qual : Str} {st : Stmt} {f : Addr} {fd : FuncData} {N ps : List Str} {k : Nat} {m : SM} (F : Fun K x qual st f fd) (S : FnScope N ps (defScope st)) (hk : 40 ≤ k) (hs : base.NoSeer) (ht : P.given.tree = none)
    (hb : ∀ (cdv : Value) (A : Around) (outer : List PySem.Env) (s : Shared) (H : Hp) (E : XK), Cok (cxOf CX0 P w K mg base N qual (defScope st) f cdv A outer s H E).nox k → BSs (cxOf CX0 P w K mg base N qual (defScope st) f cdv A outer s H E).nox (defBody st) m) :
    FnOk P w K mg base CX0 (k + 1) f fd ps (spOf K ps.length (mkDen N.length m)) := by
  refine F.ok S (fun vs H Q E h => h.1) fun cdv A outer s H vs Q E hr h => ?_
  have hd := hr.dp
  have hu := hr.un
  obtain ⟨t, h1, h2⟩ := hb cdv A outer s H E ⟨rfl, S.nd, PassesOwn.never, ⟨hs, ht, by show (A.deeper (envOfC qual (defScope st) s.heap.objs.size f cdv)).depth + 100 < recursionLimit; omega, _, outer, rfl, S.gen, S.co, rfl, rfl⟩, by show (A.deeper (envOfC qual (defScope st) s.heap.objs.size f cdv)).units + 64 < cLine; omega, by show (A.deeper (envOfC qual (defScope st) s.heap.objs.size f cdv)).units + 65 < cLine; omega, hr⟩
  refine ⟨t, h1, ?_⟩
  obtain ⟨_, Hf, as, r, os, hd, ho, E0, q⟩ := h
  obtain ⟨E1, eq⟩ := rep_start N E0
  have ow : ∀ p, Own (startE N.length as) (L2.start N vs) p → Own (as.map some) (vs.map some) p := fun p ⟨i, h⟩ => ⟨i, (eq i p).mp h⟩
  have hl : as.length = vs.length := by simpa using E0.len
  unfold mkDen at hd
  simp only [Option.bind_eq_some_iff] at hd
  obtain ⟨⟨fl, ρ'⟩, e1, e2⟩ := hd
  have K' : (cxOf CX0 P w K mg base N qual (defScope st) f cdv A outer s H E).nox.K = K := rfl
  refine h2 (startE N.length as) fl ρ' (L2.start N vs) Hf H e1 E1 _ fun σ' Hf' H' B => ?_
  have refs : ∀ i o, as[i]? = some (.ref o) → isRef (get ρ' i) = true ∧ slot σ' i = vs[i]? := fun i o e => by
    obtain ⟨a, b⟩ := B.ref i
    have g : get (startE N.length as) i = some (.ref o) := by rw [get_start]; exact e
    rw [g] at a b
    exact ⟨a, (b rfl).trans (slot_start N vs i)⟩
  have fin : ∀ os', outs as ρ' = some os' → OutsOk K Hf' H' as vs os' := fun os' h => outs_ok as vs os' ρ' σ' ho hl h B.en.sl fun i o e => (refs i o e).2
  have st' : Step (Own (as.map some) (vs.map some)) Hf H Hf' H' := B.st.weak fun p hp => .inl (ow p hp)
  have nw : ∀ i o p, get ρ' i = some (.own o) → slot σ' i = some (.ref p) → H p = none := fun i o p g sl => by
    have oi : OwnAt ρ' σ' i p := ⟨by rw [g]; rfl, sl⟩
    rcases B.own p ⟨i, oi⟩ with z | z
    · obtain ⟨k, a, b⟩ := ow p z
      rw [get_map] at a
      cases hk : as[k]? with
      | none => rw [hk] at a; cases a
      | some s0 =>
        cases s0 with
        | val v => rw [hk] at a; cases a
        | own o0 =>
          have := List.all_eq_true.mp ho _ (List.mem_of_getElem? hk)
          cases this
        | lck o0 => rw [hk] at a; cases a
        | ref o0 =>
          obtain ⟨r1, r2⟩ := refs k o0 hk
          have sk : slot σ' k = some (.ref p) := by rw [r2, ← slot_map]; exact b
          have nl : isLck (get ρ' k) = false := by
            cases gk : get ρ' k with
            | none => rfl
            | some s =>
              cases s with
              | lck kvs =>
                exfalso
                obtain ⟨u1, a1, p1, e1, ws, od, f1, _⟩ := B.en.sl k _ gk
                rw [sk] at a1
                cases a1
                cases e1
                obtain ⟨u2, a2, p2, e2, f2, _⟩ := B.en.sl i _ g
                rw [sl] at a2
                cases a2
                cases e2
                rw [f2] at f1
                cases f1
              | _ => rfl
          have ok : OwnAt ρ' σ' k p := ⟨isRef_isOb r1 nl, sk⟩
          have : i = k := B.en.dis i k p oi ok
          subst this
          rw [g] at r1
          cases r1
    · exact z
  cases fl with
  | nx =>
    simp only [Option.map_eq_some_iff, Prod.mk.injEq] at e2
    obtain ⟨os', h3, rfl, rfl⟩ := e2
    exact q .non Hf' H' st' .non (fin _ h3)
  | rt r0 =>
    simp only [Option.bind_eq_some_iff, Option.map_eq_some_iff, Prod.mk.injEq] at e2
    obtain ⟨r', h4, os', h3, rfl, rfl⟩ := e2
    intro u R1
    exact q u Hf' H' st' (leave_ok B.en R1 h4 nw) (fin _ h3)
  | bk => cases e2
  | ct => cases e2

/-! ### calls -/
/-- the arguments, as they stand -/
def AgOk (K : PySem.W.Frag) (Hf : Hp) (ρ : Env) (σ : L2.St) : List Ag → List Sl → List V → Prop
  | [], [], [] => True
  | .v _ :: as, .val v :: ss, u :: us => Dp K Hf u v ∧ AgOk K Hf ρ σ as ss us
  | .r i :: as, .ref o :: ss, u :: us => slot σ i = some u ∧ obAt ρ i = some o ∧ AgOk K Hf ρ σ as ss us
  | _, _, _ => False
def SA (K : PySem.W.Frag) (ta : TA) (as : List Ag) : Prop := ∀ (ρ : Env) (ss : List Sl) (ρ' : Env) (σ : L2.St) (Hf H : Hp), agsEval as ρ = some (ss, ρ') → RepE K Hf H ρ σ → ∀ Q : List V → Hp → Prop,
  (∀ us Hf' H', Bh K Hf H ρ σ Hf' H' ρ' → AgOk K Hf' ρ' σ as ss us → Q us H') → ta σ H Q
structure BA (X : Cx) (es : List Expr) (as : List Ag) : Prop where
  ex : ∃ ta, PA X es ta ∧ SA X.K ta as
theorem sa_nil : SA K tNil [] := by
  intro ρ ss ρ' σ Hf H hm E Q q
  cases hm
  exact q [] Hf H (.refl E) trivial
theorem sa_v {te : TE} {tr : TA} {a : M} {as : List Ag} (ha : SE K te a) (hr : SA K tr as) : SA K (tCons te tr) (.v a :: as) := by
  intro ρ ss ρ' σ Hf H hm E Q q
  simp only [agsEval, Option.bind_eq_some_iff, Option.map_eq_some_iff, Prod.mk.injEq] at hm
  obtain ⟨⟨x, ρ1⟩, e1, ⟨v, ρ2⟩, e2, ⟨ss', ρ3⟩, e3, rfl, rfl⟩ := hm
  refine ha ρ x ρ1 σ Hf H e1 E _ fun u Hf1 H1 S1 E1 R1 k1 => ?_
  obtain ⟨Hf2, B2, d⟩ := (⟨S1, E1, k1⟩ : Bh K Hf H ρ σ Hf1 H1 ρ1).frz E R1 e2
  refine hr ρ2 ss' ρ3 σ Hf2 H1 e3 B2.en _ fun us Hf3 H3 B3 A3 => ?_
  exact q (u :: us) Hf3 H3 (B2.trans B3) ⟨dp_mono B3.st.ff _ _ d, A3⟩
theorem sa_r {tr : TA} {i : Nat} {as : List Ag} (hr : SA K tr as) : SA K (tCons (tVar i) tr) (.r i :: as) := by
  intro ρ ss ρ' σ Hf H hm E Q q
  simp only [agsEval, Option.bind_eq_some_iff, Option.map_eq_some_iff, Prod.mk.injEq] at hm
  obtain ⟨o0, e0, ⟨ss', ρ3⟩, e3, o, e4, rfl, rfl⟩ := hm
  obtain ⟨p, _, s1, _⟩ := obAt_ok E e0
  refine ⟨_, slot_at s1, ?_⟩
  refine hr ρ ss' ρ3 σ Hf H e3 E _ fun us Hf3 H3 B3 A3 => ?_
  exact q (.ref p :: us) Hf3 H3 B3 ⟨s1, e4, A3⟩
theorem AgOk.len : ∀ {as : List Ag} {ss : List Sl} {us : List V}, AgOk K Hf ρ σ as ss us → ss.length = us.length ∧ ss.all notOwn = true
  | [], [], [], _ => ⟨rfl, rfl⟩
  | .v _ :: as, .val v :: ss, u :: us, h => by obtain ⟨a, b⟩ := AgOk.len h.2; exact ⟨by simp [a], by simp [b, notOwn]⟩
  | .r i :: as, .ref o :: ss, u :: us, h => by obtain ⟨a, b⟩ := AgOk.len h.2.2; exact ⟨by simp [a], by simp [b, notOwn]⟩
  | [], _ :: _, _, h => by cases h
  | [], [], _ :: _, h => by cases h
  | .v _ :: _, [], _, h => by cases h
  | .v _ :: _, .own _ :: _, _, h => by cases h
  | .v _ :: _, .ref _ :: _, _, h => by cases h
  | .v _ :: _, .val _ :: _, [], h => by cases h
  | .r _ :: _, [], _, h => by cases h
  | .r _ :: _, .own _ :: _, _, h => by cases h
  | .r _ :: _, .val _ :: _, _, h => by cases h
  | .r _ :: _, .ref _ :: _, [], h => by cases h
/-- the k-th argument -/
theorem AgOk.at : ∀ {as : List Ag} {ss : List Sl} {us : List V}, AgOk K Hf ρ σ as ss us → ∀ (k : Nat) s, ss[k]? = some s → ∃ u, us[k]? = some u ∧ ((∃ v, s = .val v ∧ Dp K Hf u v) ∨ ∃ i o, s = .ref o ∧ as[k]? = some (Ag.r i) ∧ slot σ i = some u ∧ obAt ρ i = some o)
  | [], [], [], _, k, s, e => by simp at e
  | .v _ :: as, .val v :: ss, u :: us, h, 0, s, e => by cases e; exact ⟨u, rfl, .inl ⟨v, rfl, h.1⟩⟩
  | .r i :: as, .ref o :: ss, u :: us, h, 0, s, e => by cases e; exact ⟨u, rfl, .inr ⟨i, o, rfl, rfl, h.1, h.2.1⟩⟩
  | .v _ :: as, .val v :: ss, u :: us, h, k + 1, s, e => by
    obtain ⟨u', a, b⟩ := AgOk.at h.2 k s e
    exact ⟨u', a, b⟩
  | .r i :: as, .ref o :: ss, u :: us, h, k + 1, s, e => by
    obtain ⟨u', a, b⟩ := AgOk.at h.2.2 k s e
    exact ⟨u', a, b⟩
  | [], _ :: _, _, h, _, _, _ => by cases h
  | [], [], _ :: _, h, _, _, _ => by cases h
  | .v _ :: _, [], _, h, _, _, _ => by cases h
  | .v _ :: _, .own _ :: _, _, h, _, _, _ => by cases h
  | .v _ :: _, .ref _ :: _, _, h, _, _, _ => by cases h
  | .v _ :: _, .val _ :: _, [], h, _, _, _ => by cases h
  | .r _ :: _, [], _, h, _, _, _ => by cases h
  | .r _ :: _, .own _ :: _, _, h, _, _, _ => by cases h
  | .r _ :: _, .val _ :: _, _, h, _, _, _ => by cases h
  | .r _ :: _, .ref _ :: _, [], h, _, _, _ => by cases h
theorem refsOf_inj : ∀ {as : List Ag} {j k i : Nat}, (refsOf as).Nodup → as[j]? = some (Ag.r i) → as[k]? = some (Ag.r i) → j = k
  | [], _, _, _, _, h, _ => by simp at h
  | .v _ :: as, 0, _, _, _, h, _ => by simp at h
  | .v _ :: as, _ + 1, 0, _, _, _, h => by simp at h
  | .v _ :: as, j + 1, k + 1, i, n, h1, h2 => congrArg (· + 1) (refsOf_inj (as := as) (i := i) n (by simpa using h1) (by simpa using h2))
  | .r l :: as, 0, 0, i, n, h1, h2 => rfl
  | .r l :: as, 0, k + 1, i, n, h1, h2 => by
    have n' : l ∉ refsOf as ∧ (refsOf as).Nodup := List.nodup_cons.mp n
    have e : l = i := by simpa using h1
    have m : ∀ (as : List Ag) (k : Nat), as[k]? = some (Ag.r i) → i ∈ refsOf as := fun as => by
      induction as with
      | nil => intro k h; simp at h
      | cons a as ih =>
        intro k h
        cases k with
        | zero => cases a with
          | v m => simp at h
          | r l => have : l = i := by simpa using h
                   subst this; exact List.mem_cons_self
        | succ k => cases a with
          | v m => exact ih k (by simpa using h)
          | r l => exact List.mem_cons_of_mem _ (ih k (by simpa using h))
    exact absurd (m as k (by simpa using h2)) (e ▸ n'.1)
  | .r l :: as, j + 1, 0, i, n, h1, h2 => (refsOf_inj (as := .r l :: as) (j := 0) (k := j + 1) n h2 h1).symm
  | .r l :: as, j + 1, k + 1, i, n, h1, h2 => congrArg (· + 1) (refsOf_inj (as := as) (i := i) (List.nodup_cons.mp n).2 (by simpa using h1) (by simpa using h2))
  termination_by as j k => (as.length, j)
  decreasing_by all_goals simp_wf; all_goals omega
/-- the callee's view -/
theorem args_rep {as : List Ag} {ss : List Sl} {us : List V} (E : RepE K Hf H ρ σ) (h : AgOk K Hf ρ σ as ss us) (nd : (refsOf as).Nodup) : RepE K Hf H (ss.map some) (us.map some) ∧ ∀ p, Own (ss.map some) (us.map some) p → ∃ i k : Nat, as[k]? = some (Ag.r i) ∧ OwnAt ρ σ i p ∧ us[k]? = some (V.ref p) := by
  have at_ : ∀ k p, OwnAt (ss.map some) (us.map some) k p → ∃ i, as[k]? = some (Ag.r i) ∧ OwnAt ρ σ i p ∧ us[k]? = some (V.ref p) := fun k p ⟨a, b⟩ => by
    rw [get_map] at a
    rw [slot_map] at b
    cases hs : ss[k]? with
    | none => rw [hs] at a; cases a
    | some s =>
      obtain ⟨u, e1, e2⟩ := h.at k s hs
      rw [b] at e1
      cases e1
      rcases e2 with ⟨v, rfl, _⟩ | ⟨i, o, rfl, e3, e4, e5⟩
      · rw [hs] at a; cases a
      · obtain ⟨p', oi, s1, _⟩ := obAt_ok E e5
        rw [e4] at s1
        cases s1
        exact ⟨i, e3, oi, b⟩
  refine ⟨⟨by simpa using h.len.1, E.ff, fun k s e => ?_, fun j k p a b => ?_⟩, fun p ⟨k, a⟩ => ?_⟩
  · rw [get_map] at e
    rw [slot_map]
    obtain ⟨u, e1, e2⟩ := h.at k s e
    refine ⟨u, e1, ?_⟩
    rcases e2 with ⟨v, rfl, d⟩ | ⟨i, o, rfl, e3, e4, e5⟩
    · exact d
    · obtain ⟨p, oi, s1, f, r, _⟩ := obAt_ok E e5
      rw [e4] at s1
      cases s1
      exact ⟨p, rfl, f, r⟩
  · obtain ⟨i, h1, h2, _⟩ := at_ j p a
    obtain ⟨i', h3, h4, _⟩ := at_ k p b
    have : i = i' := E.dis i i' p h2 h4
    subst this
    exact refsOf_inj nd h1 h3
  · obtain ⟨i, h1, h2, h3⟩ := at_ k p a
    exact ⟨i, k, h1, h2, h3⟩
/-- what the objects are behind the call, by the names -/
theorem outs_by : ∀ {as : List Ag} {ss : List Sl} {us : List V} {os : List Ob}, AgOk K Hf ρ σ as ss us → OutsOk K Hf' H' ss us os → (refsOf as).length = os.length ∧ ∀ j o, (j, o) ∈ (refsOf as).zip os → ∃ p, slot σ j = some (.ref p) ∧ Hf' p = none ∧ RepOb K Hf' H' p o
  | [], [], [], [], _, _ => ⟨rfl, fun j o h => by simp [refsOf] at h⟩
  | .v _ :: as, .val v :: ss, u :: us, os, h, k => outs_by (as := as) h.2 k
  | .r i :: as, .ref o :: ss, u :: us, o' :: os, h, k => by
    obtain ⟨l, m⟩ := outs_by (as := as) h.2.2 k.2
    refine ⟨by simp [refsOf, l], fun j o2 hj => ?_⟩
    have hj' : (j, o2) ∈ (i, o') :: (refsOf as).zip os := hj
    rcases List.mem_cons.mp hj' with e | e
    · cases e
      obtain ⟨p, e1, f, r⟩ := k.1
      exact ⟨p, by rw [h.1, e1], f, r⟩
    · exact m j o2 e
  | [], _ :: _, _, _, h, _ => by cases h
  | [], [], _ :: _, _, h, _ => by cases h
  | [], [], [], _ :: _, _, k => by cases k
  | .v _ :: _, [], _, _, h, _ => by cases h
  | .v _ :: _, .own _ :: _, _, _, h, _ => by cases h
  | .v _ :: _, .ref _ :: _, _, _, h, _ => by cases h
  | .v _ :: _, .val _ :: _, [], _, h, _ => by cases h
  | .r _ :: _, [], _, _, h, _ => by cases h
  | .r _ :: _, .own _ :: _, _, _, h, _ => by cases h
  | .r _ :: _, .val _ :: _, _, _, h, _ => by cases h
  | .r _ :: _, .ref _ :: _, [], _, h, _ => by cases h
  | .r _ :: _, .ref _ :: _, _ :: _, [], _, k => by cases k
theorem setOb_len (i : Nat) (o : Ob) : (setOb ρ i o).length = ρ.length := by
  unfold setOb
  split <;> rw [List.length_set]
theorem setObs_get : ∀ (is : List Nat) (os : List Ob) (ρ : Env), is.Nodup → is.length = os.length → (∀ i ∈ is, i < ρ.length) → (setObs is os ρ).length = ρ.length ∧ (∀ j, j ∉ is → get (setObs is os ρ) j = get ρ j) ∧
    ∀ j o, (j, o) ∈ is.zip os → get (setObs is os ρ) j = if isRef (get ρ j) then some (.ref o) else some (.own o)
  | [], [], ρ, _, _, _ => ⟨rfl, fun _ _ => rfl, fun j o h => by simp at h⟩
  | [], _ :: _, _, _, h, _ => by cases h
  | _ :: _, [], _, _, h, _ => by cases h
  | i :: is, o :: os, ρ, nd, hl, hb => by
    obtain ⟨n1, n2⟩ := List.nodup_cons.mp nd
    have hi : i < ρ.length := hb i List.mem_cons_self
    obtain ⟨a, b, c⟩ := setObs_get is os (setOb ρ i o) n2 (by simpa using hl) fun k hk => by rw [setOb_len]; exact hb k (List.mem_cons_of_mem _ hk)
    refine ⟨a.trans (setOb_len i o), fun j hj => ?_, fun j o' h => ?_⟩
    · have h1 : j ∉ is := fun z => hj (List.mem_cons_of_mem _ z)
      have h2 : i ≠ j := fun z => hj (z ▸ List.mem_cons_self)
      show get (setObs is os (setOb ρ i o)) j = _
      rw [b j h1, get_setOb i j o hi, if_neg h2]
    · show get (setObs is os (setOb ρ i o)) j = _
      have h' : (j, o') ∈ (i, o) :: is.zip os := h
      rcases List.mem_cons.mp h' with e | e
      · cases e
        rw [b i n1, get_setOb i i o hi, if_pos rfl]
      · rw [c j o' e]
        have hij : i ≠ j := fun z => n1 (z ▸ (List.of_mem_zip e).1)
        rw [get_setOb i j o hi, if_neg hij]
theorem zip_mem : ∀ {is : List Nat} {os : List Ob} {j : Nat}, is.length = os.length → j ∈ is → ∃ o, (j, o) ∈ is.zip os
  | [], _, _, _, h => by cases h
  | _ :: _, [], _, h, _ => by cases h
  | i :: is, o :: os, j, hl, h => by
    rcases List.mem_cons.mp h with e | e
    · exact ⟨o, by rw [e]; exact List.mem_cons_self⟩
    · obtain ⟨o', h'⟩ := zip_mem (is := is) (os := os) (by simpa using hl) e
      exact ⟨o', List.mem_cons_of_mem _ h'⟩
theorem refs_mem : ∀ {as : List Ag} {i k : Nat}, as[k]? = some (Ag.r i) → i ∈ refsOf as
  | [], _, _, h => by simp at h
  | .v _ :: as, i, 0, h => by simp at h
  | .v _ :: as, i, k + 1, h => refs_mem (as := as) (k := k) (by simpa using h)
  | .r l :: as, i, 0, h => by have e : l = i := by simpa using h
                              exact e ▸ List.mem_cons_self
  | .r l :: as, i, k + 1, h => List.mem_cons_of_mem _ (refs_mem (as := as) (k := k) (by simpa using h))
theorem agOk_refs : ∀ {as : List Ag} {ss : List Sl} {us : List V}, AgOk K Hf ρ σ as ss us → ∀ i ∈ refsOf as, ∃ o, obAt ρ i = some o
  | [], [], [], _, i, h => by cases h
  | .v _ :: as, .val v :: ss, u :: us, h, i, hi => agOk_refs (as := as) h.2 i hi
  | .r l :: as, .ref o :: ss, u :: us, h, i, hi => by
    have hi' : i ∈ l :: refsOf as := hi
    rcases List.mem_cons.mp hi' with e | e
    · exact ⟨o, e ▸ h.2.1⟩
    · exact agOk_refs (as := as) h.2.2 i e
  | [], _ :: _, _, h, _, _ => by cases h
  | [], [], _ :: _, h, _, _ => by cases h
  | .v _ :: _, [], _, h, _, _ => by cases h
  | .v _ :: _, .own _ :: _, _, h, _, _ => by cases h
  | .v _ :: _, .ref _ :: _, _, h, _, _ => by cases h
  | .v _ :: _, .val _ :: _, [], h, _, _ => by cases h
  | .r _ :: _, [], _, h, _, _ => by cases h
  | .r _ :: _, .own _ :: _, _, h, _, _ => by cases h
  | .r _ :: _, .val _ :: _, _, h, _, _ => by cases h
  | .r _ :: _, .ref _ :: _, [], h, _, _ => by cases h
theorem se_call {ta : TA} {as : List Ag} {d : Den} {n : Nat} {E : XK} (hn : as.length = n) (ha : SA K ta as) : SE K (tCall (spOf K n d) [] E ta) (mCall d as) := by
  intro ρ r ρ' σ Hf H hm E0 Q q
  simp only [mCall, Option.bind_eq_some_iff] at hm
  obtain ⟨⟨ss, ρ1⟩, e1, e2⟩ := hm
  split at e2
  · rename_i nd
    simp only [Option.map_eq_some_iff, Prod.mk.injEq] at e2
    obtain ⟨⟨r', os⟩, e3, rfl, rfl⟩ := e2
    refine ha ρ ss ρ1 σ Hf H e1 E0 _ fun us Hf1 H1 B1 A1 => ?_
    have hle : ∀ {as : List Ag} {ss : List Sl} {us : List V}, AgOk K Hf1 ρ1 σ as ss us → us.length = as.length := by
      intro as
      induction as with
      | nil => intro ss us h; cases ss <;> cases us <;> first | rfl | cases h
      | cons a as ih =>
        intro ss us h
        cases ss with
        | nil => cases a <;> cases h
        | cons s ss =>
          cases us with
          | nil => cases a <;> cases s <;> cases h
          | cons u us =>
            cases a <;> cases s <;> first
              | exact congrArg (· + 1) (ih h.2)
              | exact congrArg (· + 1) (ih h.2.2)
              | cases h
    obtain ⟨E2, ow⟩ := args_rep B1.en A1 nd
    rw [List.append_nil]
    refine ⟨(hle A1).trans hn, Hf1, ss, r', os, e3, A1.len.2, E2, fun u Hf2 H2 S2 R2 O2 => ?_⟩
    obtain ⟨ol, ob⟩ := outs_by A1 O2
    have lt : ∀ i ∈ refsOf as, i < ρ1.length := fun i hi => by
      obtain ⟨o, h⟩ := agOk_refs A1 i hi
      obtain ⟨_, _, _, _, _, h⟩ := obAt_ok B1.en h
      exact h
    obtain ⟨l1, g1, g2⟩ := setObs_get (refsOf as) os ρ1 nd ol lt
    have isob : ∀ j, isOb (get (setObs (refsOf as) os ρ1) j) = true → isOb (get ρ1 j) = true := fun j h => by
      by_cases hj : j ∈ refsOf as
      · obtain ⟨o, ho⟩ := agOk_refs A1 j hj
        obtain ⟨_, oi, _⟩ := obAt_ok B1.en ho
        exact oi.1
      · rw [g1 j hj] at h; exact h
    have st : Step (Own ρ1 σ) Hf1 H1 Hf2 H2 := S2.weak fun p hp => by
      obtain ⟨i, k, _, h, _⟩ := ow p hp
      exact .inl ⟨i, h⟩
    have B2 : Bh K Hf1 H1 ρ1 σ Hf2 H2 (setObs (refsOf as) os ρ1) := by
      refine ⟨st, ⟨l1.trans B1.en.len, S2.fh, fun j s e => ?_, fun j k p a b => B1.en.dis j k p ⟨isob j a.1, a.2⟩ ⟨isob k b.1, b.2⟩⟩, ⟨isob, fun j => ?_⟩⟩
      · by_cases hj : j ∈ refsOf as
        · obtain ⟨o, hz⟩ := zip_mem ol hj
          obtain ⟨p, s1, f1, r1⟩ := ob j o hz
          rw [g2 j o hz] at e
          refine ⟨_, s1, ?_⟩
          split at e
          · cases e; exact ⟨p, rfl, f1, r1⟩
          · cases e; exact ⟨p, rfl, f1, r1⟩
        · rw [g1 j hj] at e
          obtain ⟨u', h1, h2⟩ := B1.en.sl j s e
          refine ⟨u', h1, h2.step S2 fun p ho hu hp => ?_⟩
          obtain ⟨i, k, hk, oi, _⟩ := ow p hp
          have : j = i := B1.en.dis j i p ⟨by rw [e]; exact ho, by rw [h1, hu]⟩ oi
          exact hj (this ▸ refs_mem hk)
      · by_cases hj : j ∈ refsOf as
        · obtain ⟨o, hz⟩ := zip_mem ol hj
          rw [g2 j o hz]
          cases hr : isRef (get ρ1 j) <;> simp [isRef]
        · rw [g1 j hj]
    have B := B1.trans B2
    exact q u Hf2 H2 B.st B.en (R2.any.back fun p hp => B1.fresh hp) B.kp
  · cases e2
end
section
variable {X : Cx} {e a : Expr} {es : List Expr} {m : M} {as : List Ag} {x y : Str} {p pos : Pos} {k n : Nat} {f : Addr} {fd : FuncData} {ps : List Str} {d : Den}
theorem ba_nil : BA X [] [] := ⟨_, pa_nil, sa_nil⟩
theorem ba_v (ha : BE X a m) (hr : BA X es as) (hs : starEach (a :: es) X.env = (false, eval a X.env) :: starEach es X.env := by rfl) : BA X (a :: es) (.v m :: as) := let ⟨t, h1, h2⟩ := ha; let ⟨u, h3, h4⟩ := hr; ⟨_, pa_cons h1 h3 hs, sa_v h2 h4⟩
theorem ba_r (i : Nat) (ho : PE X (.Name x p) (tVar i)) (hr : BA X es as) (hs : starEach (.Name x p :: es) X.env = (false, eval (.Name x p) X.env) :: starEach es X.env := by rfl) : BA X (.Name x p :: es) (.r i :: as) := let ⟨u, h3, h4⟩ := hr; ⟨_, pa_cons ho h3 hs, sa_r h4⟩
/-- f(e, ..) -/
theorem be_call (F : FnOk X.prog X.w X.K X.mg X.base CX0 k f fd ps (spOf X.K n d)) (hr : Room k X.A) (hg : Gl X x) (hm : X.mg x = some (.ref f)) (hk : PySem.W.keepIn X.K (.ref f) = true) (hb : Binds X.K fd ps []) (ha : BA X (e :: es) as) (hn : as.length = n := by rfl)
    (hdb : (x == ("__debug__" : Str)) = false := by decide) (he : starEach (e :: es) X.env = (false, eval e X.env) :: starEach es X.env := by rfl) (hpl : (backTo pos (starEach es X.env)).any (·.1) = false := by rfl) : BE X (.Call (.Name x p) (e :: es) [] pos) (mCall d as) := by
  obtain ⟨t, h1, h2⟩ := ha
  exact ⟨_, pe_call F hr hg hm hk hb .nil (pass0 (X := X)) h1 hdb he hpl, se_call hn h2⟩
end
/-- a def that is never come to -/
theorem ok_none {P : Program} {w : World} {K : PySem.W.Frag} {mg : Str → Option Value} {base : Heap} {k n : Nat} {f : Addr} {fd : FuncData} {ps : List Str} (hp : ps.length = n) : FnOk P w K mg base CX0 k f fd ps (spOf K n fun _ => none) :=
  ⟨fun vs H Q E h => h.1.trans hp.symm, fun A outer s H args us vs Q E hr he hb hv ⟨_, Hf, as, r, os, hd, _⟩ => nomatch hd⟩
end Py
/-! Py8: the law's end. -/
namespace Py
open PySem PySem.Spec PyProof.Rows L2

/-- the script alone is tracked: the law's def, called -/
theorem law_core {P : Program} {w : World} {K : PySem.W.Frag} {mg mb : Str → Option Value} {k : Nat} {fa a : Addr} {fd : FuncData} {x : Str} {d : Den} {s₁ : Shared} {vs : List Value} {ns : List Int}
    (KX : K.In s₁.heap) (n1 : s₁.heap.Ns mainGlobals mg) (n2 : s₁.heap.Ns builtinsNs mb) (n3 : ∀ x : Str, x ≠ "__name__" → mb x = bootBuiltins x) (n4 : s₁.heap.NoLimit) (n5 : s₁.heap.NoSeer) (n6 : s₁.gens = #[])
    (ob : s₁.heap.get? a = some { cls := .type "list", data := .seq vs.toArray }) (hr : Room k callerA)
    (F : ∀ base : Heap, K.In base → base.Ns mainGlobals mg → base.NoSeer → FnOk P w K mg base CX0 k fa fd [x] (spOf K 1 d)) (bi : ∀ (s : Shared) (u : Value), BindsTo s fd ⟨[u], []⟩ [(x, u)])
    (pure : ∃ os, d [.val (.list (ns.map PyData.int))] = some (.val (.bool true), os)) (H : Hp) (hS : SqL K H a (ns.map V.int)) (hok : HOk P w H s₁.heap) (only : ∀ b u, H b = some u → b = a ∧ K.lookup a = none ∧ ∃ o xs, u = .frz o (.lst xs)) :
    codeAny (model P w) callerA (.call (.ref fa) ⟨[.ref a], []⟩) (fun r s' => r = .ok (.ret (.bool true)) ∧ OldK s₁.heap s'.heap ∧ s'.os = s₁.os ∧ AllBare s'.gens) s₁ := by
  have free : ∀ b, b ≠ a → H b = none := fun b h => by
    cases q : H b with
    | none => rfl
    | some u => exact absurd (only b u q).1 h
  have base_get : ∀ b o, b ≠ a → s₁.heap.get? b = some o → (hidT s₁.heap H).get? b = some o := fun b o h e => hidT_get e (free b h)
  have ns_get : ∀ b m, s₁.heap.Ns b m → (hidT s₁.heap H).Ns b m := by
    rintro b m ⟨o, es, ep, e, dd, r⟩
    refine ⟨o, es, ep, base_get b o (fun z => ?_) e, dd, r⟩
    rw [z, ob] at e
    cases e
    cases dd
  have kin : K.In (hidT s₁.heap H) := fun b o e => by
    by_cases h : b = a
    · subst h
      refine hidT_get (KX b o e) ?_
      cases q : H b with
      | none => rfl
      | some u => have := (only b u q).2.1; rw [e] at this; cases this
    · exact base_get b o h (KX b o e)
  have seer : (hidT s₁.heap H).NoSeer := by
    obtain ⟨⟨mc, c1, c2⟩, ⟨mm, m1, m2⟩, ⟨mb', b1, b2⟩, ⟨mg', bm, obm, g1, g2, g3, g4, g5⟩⟩ := n5
    refine ⟨⟨mc, ns_get _ _ c1, c2⟩, ⟨mm, ns_get _ _ m1, m2⟩, ⟨mb', ns_get _ _ b1, b2⟩, ⟨mg', bm, obm, ns_get _ _ g1, g2, base_get bm obm (fun z => ?_) g3, g4, g5⟩⟩
    rw [z, ob] at g3
    cases g3
    exact absurd (show Value.type "list" = Value.type "module" from g4) (by decide)
  have mod : Mod K mg (hidT s₁.heap H) := ⟨kin, ns_get _ _ n1, ⟨mb, ns_get _ _ n2, n3⟩, let ⟨mc, h1, h2⟩ := n4; ⟨mc, ns_get _ _ h1, h2⟩⟩
  have env : Env0 P w K mg (hidT s₁.heap H) callerA [] s₁ H := ⟨rfl, mod, fun b o e => of_hidT e, Nat.le_of_eq (hidT_size _ _), trivial, fun b hb => absurd hb List.not_mem_nil, hok, .of_eq n6⟩
  obtain ⟨os, hd⟩ := pure
  have args : RepE K H H ([Sl.val (.list (ns.map PyData.int))].map some) ([V.ref a].map some) := by
    refine ⟨rfl, fun _ _ h => h, fun i s e => ?_, fun i j p ha => ?_⟩
    · rw [get_map] at e
      rw [slot_map]
      cases i with
      | zero => cases e; exact ⟨_, rfl, .lst hS (dps_ints ns)⟩
      | succ i => cases e
    · have h1 := ha.1
      rw [get_map] at h1
      cases i with
      | zero => cases h1
      | succ i => cases h1
  have prom : spOf K 1 d [.ref a] H (fun v _ => v = .bl true) fun _ _ _ => False := ⟨rfl, H, _, _, os, hd, rfl, args, fun u Hf' H' _ R _ => by cases (show Dp K Hf' u (.bool true) from R); rfl⟩
  refine codeAny_mono ((F _ kin (ns_get _ _ n1) seer).run callerA [] s₁ H ⟨[.ref a], []⟩ [.ref a] [.ref a] _ _ hr env (bi s₁ (.ref a)) (.cons rfl .nil) prom) fun r s' h => ?_
  cases r with
  | error e => exact False.elim h
  | ok fl =>
    cases fl with
    | next => exact False.elim h
    | brk => exact False.elim h
    | cont => exact False.elim h
    | ret u =>
      obtain ⟨v, H', os', bare, un, hok', rv, q⟩ := h
      have q' : v = .bl true := q
      subst q'
      obtain rfl : u = Value.bool true := rv
      refine ⟨rfl, OldK.of_keep fun b o e => ?_, os', bare⟩
      cases z : H b with
      | none => exact un.keep b o e z (List.not_mem_nil) List.not_mem_nil
      | some u =>
        obtain ⟨_, _, o2, xs, rfl⟩ := only b u z
        have z1 := (hok b _ z).1
        have z2 := (hok' b _ (un.frzs b o2 _ z)).1
        rw [e] at z1
        cases z1
        exact z2
theorem law_py {P : Program} {w : World} {K : PySem.W.Frag} {mg mb : Str → Option Value} {k : Nat} {fa a : Addr} {fd : FuncData} {x : Str} {d : Den} {s₁ : Shared} {vs : List Value} {ns : List Int}
    (KX : K.In s₁.heap) (n1 : s₁.heap.Ns mainGlobals mg) (n2 : s₁.heap.Ns builtinsNs mb) (n3 : ∀ x : Str, x ≠ "__name__" → mb x = bootBuiltins x) (n4 : s₁.heap.NoLimit) (n5 : s₁.heap.NoSeer) (n6 : s₁.gens = #[])
    (ob : s₁.heap.get? a = some { cls := .type "list", data := .seq vs.toArray }) (hi : IntsAre vs ns) (hl : ns.length ≤ sizeLine) (hr : Room k callerA)
    (F : ∀ base : Heap, K.In base → base.Ns mainGlobals mg → base.NoSeer → FnOk P w K mg base CX0 k fa fd [x] (spOf K 1 d)) (bi : ∀ (s : Shared) (u : Value), BindsTo s fd ⟨[u], []⟩ [(x, u)])
    (pure : ∃ os, d [.val (.list (ns.map PyData.int))] = some (.val (.bool true), os)) :
    codeAny (model P w) callerA (.call (.ref fa) ⟨[.ref a], []⟩) (fun r s' => r = .ok (.ret (.bool true)) ∧ OldK s₁.heap s'.heap ∧ s'.os = s₁.os ∧ AllBare s'.gens) s₁ := by
  have rv := vals_ints hi
  have hlen : (ns.map V.int).length ≤ sizeLine := by rw [List.length_map]; exact hl
  cases hk : K.lookup a with
  | some o =>
    have e := KX a o hk
    rw [ob] at e
    cases e
    refine law_core KX n1 n2 n3 n4 n5 n6 ob hr F bi pure (fun _ => none) (.inr ⟨_, vs.toArray, _, hk, rfl, rfl, rfl, ?_, by simpa using rv⟩) (fun b u z => nomatch z) fun b u z => nomatch z
    have := rv.length
    rw [List.size_toArray, ← this]
    exact hlen
  | none =>
    refine law_core KX n1 n2 n3 n4 n5 n6 ob hr F bi pure (fun b => if b = a then some (.frz { cls := .type "list", data := .seq vs.toArray } (.lst (ns.map V.int))) else none) (.inl (.inr ⟨_, if_pos rfl⟩)) (fun b u z => ?_) fun b u z => ?_
    · by_cases hb : b = a
      · subst hb
        have z' := (if_pos rfl).symm.trans z
        cases z'
        exact ⟨ob, hlen, vs, _, rv, ob⟩
      · have z' := (if_neg hb).symm.trans z
        cases z'
    · by_cases hb : b = a
      · have z' := (if_pos hb).symm.trans z
        cases z'
        exact ⟨hb, hk, _, _, rfl⟩
      · have z' := (if_neg hb).symm.trans z
        cases z'
/-- the goal that k_head leaves, from the law's def -/
theorem walk_py {l : PySem.W.OpenLaw} {n k : Nat} {q : Program} {loose : List Str} {XP : (Str → Option Value) → Heap → Prop} {YP : World → Heap → Prop} {dr : DefRec} {K : Params → PySem.W.Frag} {x : Str} {d : Den}
    (hn : l.most = some n) (hn2 : n ≤ sizeLine) (hdf : dr.params.defaults = []) (hr : Room k callerA) (hq : importsNone q = true)
    (hY : ∀ (w : World) (h : Heap), YP w h → (K w.params).In h)
    (F : ∀ (w : World) (mg : Str → Option Value) (fa : Addr) (h : Heap), (K w.params).In h → h.Ns mainGlobals mg → mg dr.name = some (.ref fa) →
      ∃ fd : FuncData, (∀ (s : Shared) (u : Value), BindsTo s fd ⟨[u], []⟩ [(x, u)]) ∧
        ∀ base : Heap, (K w.params).In base → base.Ns mainGlobals mg → base.NoSeer → FnOk l.prog w (K w.params) mg base CX0 k fa fd [x] (spOf (K w.params) 1 d))
    (pure : ∀ ns : List Int, ns.length ≤ n → (∀ z ∈ ns, Builtin.Int.intBits z ≤ 1048576) → ∃ os, d [.val (.list (ns.map PyData.int))] = some (.val (.bool true), os)) :
    PySem.W.WalkO q loose XP YP l.row.toRowW dr [] (fun f vs => PySem.call f vs) := by
  refine Att.attach_callB hn hdf fun w s₀ s₁ mg mb fa o pm cd doc a vs ns G Y ho hd hcd hmg hobj hints hlen hbits hg => ?_
  have KX := hY w _ Y
  obtain ⟨fd, hb, hF⟩ := F w mg fa _ KX G.T.g hmg
  exact law_py KX G.T.g G.T.b G.T.builtins G.T.nolimit (G.T.seer hq) hg hobj hints (Nat.le_trans hlen hn2) hr hF hb (pure ns hlen hbits)
end Py
/-! Py9: words for the walk. -/
namespace Py
open PySem PySem.Spec PyProof.Rows L2
/-- a def of the text, as it stands behind the top -/
structure Df (K : PySem.W.Frag) (mg : Str → Option Value) (x : Str) (st : Stmt) where
  f : Addr
  fd : FuncData
  F : Fun K x x st f fd
  g : mg x = some (.ref f)
/-- a constant tuple -/
structure CT (K : PySem.W.Frag) (mg : Str → Option Value) (x : Str) (vs : List PV) where
  a : Addr
  m : mg x = some (.ref a)
  d : ∀ H : Hp, Dp K H (.ref a) (.tuple vs)
def ct_mk {K : PySem.W.Frag} {h : Heap} {mg : Str → Option Value} {x : Str} {i j : Int} {a : Addr} {t u : Tok} {od : Option Addr} {n : Nat} {sl : Array (Option Value)} (X : K.In h) (G : h.Ns mainGlobals mg) (q1 : PySem.W.nsIn K mainGlobals x = some (some (.ref a)))
    (q2 : K.lookup a = some ⟨.type "tuple", od, .seq #[.int i t, .int j u] n, sl⟩) : CT K mg x [.int i, .int j] :=
  ⟨a, PySem.W.mg_of X G q1, fun H => .tup (.inr ⟨_, _, _, q2, rfl, rfl, (by show 2 ≤ sizeLine; rw [sizeLine_eq]; decide), .cons (show RelV (.int i) _ from ⟨t, rfl⟩) (.cons (show RelV (.int j) _ from ⟨u, rfl⟩) .nil)⟩) (.cons (.int i) (.cons (.int j) .nil))⟩
theorem bt_len : bootBuiltins "len" = some (.builtin "len") := by decide +kernel
theorem bt_abs : bootBuiltins "abs" = some (.builtin "abs") := by decide +kernel
theorem bt_sum : bootBuiltins "sum" = some (.builtin "sum") := by decide +kernel
theorem bt_sorted : bootBuiltins "sorted" = some (.builtin "sorted") := by decide +kernel
theorem bt_isinstance : bootBuiltins "isinstance" = some (.builtin "isinstance") := by decide +kernel
theorem bt_int : bootBuiltins "int" = some (.type "int") := by decide +kernel
theorem bt_bool : bootBuiltins "bool" = some (.type "bool") := by decide +kernel
theorem bt_str : bootBuiltins "str" = some (.type "str") := by decide +kernel
theorem bt_tuple : bootBuiltins "tuple" = some (.type "tuple") := by decide +kernel
theorem bt_list : bootBuiltins "list" = some (.type "list") := by decide +kernel
theorem blk_at {N : List Str} {sc scope : Scope} {own : List (Str × Nat)} {X : Cx} (h1 : X.N = N) (h2 : X.env.scope = sc) (h : blkC N sc scope own = true) : blkC X.N X.env.scope scope own = true := by rw [h1, h2]; exact h
/-- the scope of a comprehension within another one -/
def relS (scope sc : Scope) : Scope := { scope with names := scope.names.map fun (n, k) => if (k == .free && sc.kind == .function && sc.names.lookup n == some .cell) then (n, .cell) else (n, k) }
theorem blk_in {N : List Str} {sc0 scope0 scope : Scope} {own : List (Str × Nat)} {X : Cx} {s : Shared} {H : Hp} {cl : List (Str × Addr)} {C : Addr} {fp : List Addr} (h1 : X.N = N) (h2 : X.env.scope = sc0) (h : blkC N (relS scope0 sc0) scope own = true) :
    blkC (X.blk s H scope0 (compEnvC scope0 cl C X.env) fp).N (X.blk s H scope0 (compEnvC scope0 cl C X.env) fp).env.scope scope own = true := by
  subst h1 h2
  exact h
theorem DivOk.blk {X : Cx} (D : DivOk X) {s : Shared} {H : Hp} {scope : Scope} {cenv : PySem.Env} {fp : List Addr} : DivOk (X.blk s H scope cenv fp) := ⟨D.seer, D.tree, D.deep, D.top⟩
section
variable {X : Cx} {elt iter : Expr} {ifs : List Expr} {scope : Scope} {pos : Pos} {mi : MI} {mt : MT} {me : M} {y : Str} {p : Pos}
end
section
variable {K : PySem.W.Frag} {Hf H Hf' H' : Hp} {X : Cx}
/-! sorted, of ints -/
end
end Py
/-! PyA0: further meanings. -/
namespace Py
open PySem
/-- is True, is False -/
def fIsB (neg : Bool) : Ct → Ct → Option R
  | .pv (.bool a), .pv (.bool b) => some (.val (.bool (neg ^^ (a == b))))
  | _, _ => none
def flatD : PV → Bool
  | .int _ => true
  | .str _ => true
  | _ => false
def inD (x : PV) (xs : List PV) : Bool := xs.any fun y => PyData.eqv y x
/-- x in a list or a tuple -/
def fIn (neg : Bool) (c d : Ct) : Option R := match c with
  | .pv x => d.seq?.bind fun xs => if flatD x = true ∧ xs.all flatD = true then some (.val (.bool (neg ^^ inD x xs))) else
    d.lst?.bind fun xs => if SeqAt.shaped x = true ∧ SeqAt.shaped (.list xs) = true then some (.val (.bool (neg ^^ inD x xs))) else none
  | _ => none
/-- list(range(n)), list(range(m, n)) -/
def mLstR1 (a : M) : M := fun ρ => (a ρ).bind fun x => (look x.1 x.2).bind fun c => (intOf c).bind fun n => if n ≤ line ∧ -(2 ^ 62) ≤ n then some (.new (.lst (rangeL 0 n.toNat)), x.2) else none
def mLstR2 (a b : M) : M := fun ρ => (a ρ).bind fun x => (look x.1 x.2).bind fun c => (intOf c).bind fun lo => (b x.2).bind fun y => (look y.1 y.2).bind fun d => (intOf d).bind fun hi =>
  if -(2 ^ 61) ≤ lo ∧ lo < 2 ^ 61 ∧ -(2 ^ 61) ≤ hi ∧ hi < 2 ^ 61 ∧ (hi - lo) ≤ line then some (.new (.lst (rangeL lo (hi - lo).toNat)), y.2) else none
/-- xs[e] op= a -/
def sAugIx (i : Nat) (e : M) (f : Ct → Ct → Option R) (a : M) : SM := fun ρ => (lstAt ρ i).bind fun _ => (e ρ).bind fun y => (look y.1 y.2).bind fun c => (intOf c).bind fun k => (lstAt y.2 i).bind fun xs => (atI xs k).bind fun v =>
  (a y.2).bind fun x => (look x.1 x.2).bind fun c2 => (f (.pv v) c2).bind fun z => match z with
    | .val w => (lstAt x.2 i).bind fun ys => (ixN ys.length k).map fun j => (.nx, setOb x.2 i (.lst (ys.set j w)))
    | _ => none
/-- xs[::-1] of a list -/
def fRevL (c : Ct) : Option R := c.lst?.map fun xs => .new (.lst xs.reverse)
def fRevT (c : Ct) : Option R := c.tup?.map fun xs => .val (.tuple xs.reverse)
/-- range(lo, hi, -1) -/
def rangeD (lo : Int) (n : Nat) : List PV := (List.range n).map fun (k : Nat) => .int (lo - (k : Int))
def iRngD (a b : M) : MI := fun ρ => (a ρ).bind fun x => (look x.1 x.2).bind fun c => (intOf c).bind fun lo => (b x.2).bind fun y => (look y.1 y.2).bind fun d => (intOf d).bind fun hi =>
  if -(2 ^ 61) ≤ lo ∧ lo < 2 ^ 61 ∧ -(2 ^ 61) ≤ hi ∧ hi < 2 ^ 61 ∧ (lo - hi) ≤ line then some (rangeD lo (lo - hi).toNat, y.2) else none
/-- xs.insert(e, v) -/
def mInsert (i : Nat) (e a : M) : M := fun ρ => (lstAt ρ i).bind fun _ => (e ρ).bind fun y => (look y.1 y.2).bind fun c => (intOf c).bind fun k => (a y.2).bind fun x => (frz x.1 x.2).bind fun v => (lstAt v.2 i).bind fun xs =>
  if 0 ≤ k ∧ k < 2 ^ 62 ∧ xs.length < line then some (.val .none, setOb v.2 i (.lst (xs.take k.toNat ++ [v.1] ++ xs.drop k.toNat))) else none
/-- xs.index(e) of flat items -/
def fIndex (c d : Ct) : Option R := match d with
  | .pv x => c.lst?.bind fun xs => if flatD x = true ∧ xs.all flatD = true then (xs.findIdx? fun y => PyData.eqv y x).map fun j => .val (.int (j : Nat)) else none
  | _ => none
/-! dicts -/
def dctAt (ρ : Env) (i : Nat) : Option (List (Key × PV)) := match obAt ρ i with
  | some (.dct kvs) => some kvs
  | _ => none
def keyC : Ct → Option Key
  | .pv v => keyOf v
  | _ => none
def fDget : Ct → Ct → Option R
  | .ob (.dct kvs), c => (keyC c).bind fun k => (dGet kvs k).map .val
  | _, _ => none
/-- k in d -/
def fDin (neg : Bool) : Ct → Ct → Option R
  | c, .ob (.dct kvs) => (keyC c).map fun k => .val (.bool (neg ^^ (dGet kvs k).isSome))
  | _, _ => none
/-- d.get(k, v) -/
def mDget2 (d k v : M) : M := fun ρ => (d ρ).bind fun x => (look x.1 x.2).bind fun _ => (k x.2).bind fun y => (look y.1 y.2).bind fun ck => (keyC ck).bind fun key => (v y.2).bind fun z => (look x.1 z.2).bind fun c => match c, z.1 with
  | .ob (.dct kvs), .val w => some (.val ((dGet kvs key).getD w), z.2)
  | _, _ => none
/-- d[k] = v -/
def sDput (i : Nat) (e a : M) : SM := fun ρ => (a ρ).bind fun x => (frz x.1 x.2).bind fun v => (dctAt v.2 i).bind fun _ => (e v.2).bind fun y => (look y.1 y.2).bind fun c => (keyC c).bind fun k => (dctAt y.2 i).bind fun kvs =>
  if kvs.length < line then some (.nx, setOb y.2 i (.dct (dPut kvs k v.1))) else none
end Py
namespace Py
open PySem
def mIndex (a b : M) : M := fun ρ => (a ρ).bind fun x => (look x.1 x.2).bind fun c0 => c0.lst?.bind fun _ => (b x.2).bind fun y => (look x.1 y.2).bind fun cx => (look y.1 y.2).bind fun cy => (fIndex cx cy).map fun z => (z, y.2)
end Py
/-! PyA: rules of the further meanings. -/
namespace Py
open PySem PySem.Spec PyProof.Rows L2
section
variable {K : PySem.W.Frag} {Hf H Hf' H' Hf1 H1 Hf2 H2 H0 : Hp} {ρ ρ' ρ1 ρ2 : Env} {σ σ' σ1 σ2 : L2.St} {O O' O1 : Addr → Prop} {X : Cx}
/-! is True -/
/-! in -/
theorem flat_V {u : V} {v : PV} (d : Dp K Hf u v) (h : flatD v = true) : flatV u = true := by
  cases d with
  | int _ => rfl
  | str _ => rfl
  | _ => cases h
theorem flat_eq {u w : V} {v x : PV} (d : Dp K Hf u v) (d2 : Dp K Hf w x) (h : flatD v = true) (h2 : flatD x = true) : eqV u w = PyData.eqv v x := by
  cases d with
  | int i =>
    cases d2 with
    | int j => rfl
    | str _ => rfl
    | _ => cases h2
  | str i =>
    cases d2 with
    | int j => rfl
    | str _ => rfl
    | _ => cases h2
  | _ => cases h
theorem flat_all : ∀ {us : List V} {xs : List PV}, DpAll K Hf us xs → xs.all flatD = true → us.all flatV = true
  | _, _, .nil, _ => rfl
  | _, _, .cons d t, h => by
    rw [List.all_cons, Bool.and_eq_true] at h ⊢
    exact ⟨flat_V d h.1, flat_all t h.2⟩
theorem flat_in {w : V} {x : PV} (d2 : Dp K Hf w x) (h2 : flatD x = true) : ∀ {us : List V} {xs : List PV}, DpAll K Hf us xs → xs.all flatD = true → inV w us = inD x xs
  | _, _, .nil, _ => rfl
  | _, _, .cons d t, h => by
    rw [List.all_cons, Bool.and_eq_true] at h
    have := flat_in d2 h2 t h.2
    unfold inV inD at this ⊢
    rw [List.any_cons, List.any_cons, this, flat_eq d d2 h.1 h2]
theorem seq_ok {c : Ct} {xs : List PV} {u : V} (e : Ex Hf H) (hc : RepC K Hf H c u) (h : c.seq? = some xs) : ∃ a us, u = .ref a ∧ (SqL K H a us ∨ SqT K H a us) ∧ DpAll K Hf us xs := by
  unfold Ct.seq? at h
  split at h
  · cases h; cases hc with | lst hs ha => exact ⟨_, _, rfl, .inl (ex_l e hs), ha⟩
  · cases h; cases hc with | tup hs ha => exact ⟨_, _, rfl, .inr (ex_t e hs), ha⟩
  · cases h; obtain ⟨a, rfl, us, h1, d1⟩ := hc; exact ⟨_, _, rfl, .inl (SqL.of h1), d1⟩
  · cases h
theorem lst_dp {c : Ct} {xs : List PV} {u : V} (e : Ex Hf H) (hc : RepC K Hf H c u) (h : c.lst? = some xs) : Dp K H u (.list xs) := by
  obtain ⟨a, us, rfl, hs, ha⟩ := lst_ok e hc h
  exact .lst hs (dps_mono e _ _ ha)
theorem in_S {neg : Bool} : OpS K (fun x y H Q => rIn K neg x y H Q ∨ (∃ d ds, Dp K H x d ∧ Dp K H y (.list ds) ∧ SeqAt.shaped d = true ∧ SeqAt.shaped (.list ds) = true ∧ Q (.bl (neg ^^ (ds.any fun z => PyData.eqv z d))) H)) (fIn neg) := fun Hf H c d x y z e hc hd e5 Q q => by
  unfold fIn at e5
  split at e5
  · rename_i v
    simp only [Option.bind_eq_some_iff] at e5
    obtain ⟨xs, h1, h2⟩ := e5
    split at h2
    · rename_i hf
      cases h2
      obtain ⟨a, us, rfl, hs, da⟩ := seq_ok e hd h1
      refine .inl ⟨a, us, rfl, hs, flat_V (dp_mono e _ _ hc) hf.1, flat_all da hf.2, ?_⟩
      rw [flat_in hc hf.1 da hf.2]
      have eb : (if neg = true then !inD v xs else inD v xs) = (neg ^^ inD v xs) := by cases neg <;> simp
      rw [eb]
      exact old e (.bl _) q
    · simp only [Option.bind_eq_some_iff] at h2
      obtain ⟨ys, h3, h4⟩ := h2
      split at h4
      · rename_i hf
        cases h4
        exact .inr ⟨v, ys, dp_mono e _ _ hc, lst_dp e hd h3, hf.1, hf.2, old e (.bl _) q⟩
      · cases h4
  · cases e5
theorem op_inDx (hu : X.A.units + 65 < cLine) : OpR X (compareOp .In) (fun x y H Q => ∃ d ds, Dp X.K H x d ∧ Dp X.K H y (.list ds) ∧ SeqAt.shaped d = true ∧ SeqAt.shaped (.list ds) = true ∧ Q (.bl (false ^^ (ds.any fun z => PyData.eqv z d))) H) := by
  intro pins s σ H x y v u Q I rx ry h
  obtain ⟨d, ds, a1, a2, a3, a4, q⟩ := h
  exact op_inD hu pins s σ H x y v u Q I rx ry ⟨d, ds, a1, a2, a3, a4, by rwa [Bool.false_xor] at q⟩
theorem op_notInDx (hu : X.A.units + 65 < cLine) : OpR X (compareOp .NotIn) (fun x y H Q => ∃ d ds, Dp X.K H x d ∧ Dp X.K H y (.list ds) ∧ SeqAt.shaped d = true ∧ SeqAt.shaped (.list ds) = true ∧ Q (.bl (true ^^ (ds.any fun z => PyData.eqv z d))) H) := by
  intro pins s σ H x y v u Q I rx ry h
  obtain ⟨d, ds, a1, a2, a3, a4, q⟩ := h
  exact op_notInD hu pins s σ H x y v u Q I rx ry ⟨d, ds, a1, a2, a3, a4, by rwa [Bool.true_xor] at q⟩
theorem ob_in (hu : X.A.units + 65 < cLine) : OpB X (compareOp .In) (fIn false) := ⟨_, op_in_seq.or (op_inDx hu), in_S⟩
theorem ob_notIn (hu : X.A.units + 65 < cLine) : OpB X (compareOp .NotIn) (fIn true) := ⟨_, op_notIn_seq.or (op_notInDx hu), in_S⟩
/-! list(range(..)) -/
theorem dps_rng (lo : Int) (n : Nat) : DpAll K Hf ((List.range n).map fun i => V.int (lo + (i : Nat))) (rangeL lo n) := by
  unfold rangeL
  induction (List.range n) with
  | nil => exact .nil
  | cons a l ih => exact .cons (.int _) ih
end
section
variable {X : Cx} {a b : Expr} {ma mb : M} {p p' pos pos' : Pos}
end
end Py
/-! PyB: rules of the further meanings: stores, dicts. -/
namespace Py
open PySem PySem.Spec PyProof.Rows L2
section
variable {K : PySem.W.Frag} {Hf H Hf' H' Hf1 H1 Hf2 H2 H0 : Hp} {ρ ρ' ρ1 ρ2 : Env} {σ σ' σ1 σ2 : L2.St} {O O' O1 : Addr → Prop} {X : Cx}
end
section
variable {X : Cx} {a b e : Expr} {ma mb me : M} {x y : Str} {p p' apos pos pos' : Pos}
end
end Py
/-! PyC: dicts. -/
namespace Py
open PySem PySem.Spec PyProof.Rows L2
section
variable {K : PySem.W.Frag} {Hf H Hf' H' Hf1 H1 Hf2 H2 H0 : Hp} {ρ ρ' ρ1 ρ2 : Env} {σ σ' σ1 σ2 : L2.St} {O O' O1 : Addr → Prop} {X : Cx}
theorem kvs_get : ∀ {ws : List (Key × V)} {kvs : List (Key × PV)} (k : Key), KvAll K Hf ws kvs → (∀ d, dGet kvs k = some d → ∃ u, valV ws k = some u ∧ Dp K Hf u d) ∧ (dGet kvs k = none → valV ws k = none)
  | _, _, k, .nil => ⟨(fun d h => by simp [dGet] at h), fun _ => rfl⟩
  | _, _, k, .cons (k := j) (v := v) (d := d) (ws := ws) (kvs := kvs) r t => by
    obtain ⟨h1, h2⟩ := kvs_get k t
    unfold dGet at h1 h2 ⊢
    by_cases e : j = k
    · rw [List.find?_cons_of_pos (by simpa using e)]
      refine ⟨fun d' h => ?_, fun h => by cases h⟩
      cases h
      exact ⟨v, valV_pos (p := (j, v)) e, r⟩
    · rw [List.find?_cons_of_neg (by simpa using e)]
      refine ⟨fun d' h => ?_, fun h => ?_⟩
      · rw [valV_neg (p := (j, v)) e]; exact h1 d' h
      · rw [valV_neg (p := (j, v)) e]; exact h2 h
theorem keyOf_ok {v : PV} {k : Key} {u : V} (h : keyOf v = some k) (d : Dp K Hf u v) : u = kV k := by
  unfold keyOf at h
  split at h
  · cases h; cases d; rfl
  · cases h; cases d; rfl
  · cases h
theorem keyC_ok {c : Ct} {k : Key} {u : V} (h : keyC c = some k) (r : RepC K Hf H c u) : u = kV k := by
  unfold keyC at h
  split at h
  · exact keyOf_ok h r
  · cases h
theorem dctAt_ok {i : Nat} {kvs : List (Key × PV)} (h : dctAt ρ i = some kvs) : obAt ρ i = some (.dct kvs) := by
  unfold dctAt at h
  split at h
  · cases h; assumption
  · cases h
theorem kvs_len : ∀ {ws : List (Key × V)} {kvs : List (Key × PV)}, KvAll K Hf ws kvs → ws.length = kvs.length
  | _, _, .nil => rfl
  | _, _, .cons _ t => by simp [kvs_len t]
theorem kvs_app : ∀ {ws ws2 : List (Key × V)} {kvs kvs2 : List (Key × PV)}, KvAll K Hf ws kvs → KvAll K Hf ws2 kvs2 → KvAll K Hf (ws ++ ws2) (kvs ++ kvs2)
  | _, _, _, _, .nil, t => t
  | _, _, _, _, .cons r s, t => .cons r (kvs_app s t)
theorem kvs_any (k : Key) : ∀ {ws : List (Key × V)} {kvs : List (Key × PV)}, KvAll K Hf ws kvs → (kvs.find? fun kv => decide (kv.1 = k)).isSome = (ws.any fun kv => decide (kv.1 = k))
  | _, _, .nil => rfl
  | _, _, .cons (k := j) (v := v) (d := d) r t => by
    rw [List.any_cons]
    by_cases e : j = k
    · rw [List.find?_cons_of_pos (by simpa using e)]; simp [e]
    · rw [List.find?_cons_of_neg (by simpa using e), kvs_any k t]; simp [e]
theorem kvs_map (k : Key) {v : PV} {u : V} (d0 : Dp K Hf u v) : ∀ {ws : List (Key × V)} {kvs : List (Key × PV)}, KvAll K Hf ws kvs → KvAll K Hf (ws.map fun kv => if kv.1 = k then (kv.1, u) else kv) (kvs.map fun kv => if kv.1 = k then (k, v) else kv)
  | _, _, .nil => .nil
  | _, _, .cons (k := j) (v := w) (d := d) r t => by
    rw [List.map_cons, List.map_cons]
    by_cases e : j = k
    · subst e
      rw [if_pos rfl, if_pos rfl]
      exact .cons d0 (kvs_map _ d0 t)
    · rw [if_neg e, if_neg e]
      exact .cons r (kvs_map _ d0 t)
theorem kvs_put {ws : List (Key × V)} {kvs : List (Key × PV)} (k : Key) {v : PV} {u : V} (r : KvAll K Hf ws kvs) (d : Dp K Hf u v) : KvAll K Hf (putK ws k u) (dPut kvs k v) := by
  unfold putK dPut
  rw [kvs_any k r]
  split
  · exact kvs_map k d r
  · exact kvs_app r (.cons d .nil)
/-- d[k] -/
theorem se_dget {td tk : TE} {a b : M} (ha : SE K td a) (hb : SE K tk b) : SE K (tDGet td tk) (mOp fDget a b) := by
  intro ρ r ρ' σ Hf H hm E Q q
  simp only [mOp, Option.bind_eq_some_iff, Option.map_eq_some_iff, Prod.mk.injEq] at hm
  obtain ⟨⟨x, ρ1⟩, e1, ⟨y, ρ2⟩, e2, cx, e3, cy, e4, z, e5, rfl, rfl⟩ := hm
  refine ha ρ x ρ1 σ Hf H e1 E _ fun u Hf1 H1 S1 E1 R1 k1 => ?_
  have B1 : Bh K Hf H ρ σ Hf1 H1 ρ1 := ⟨S1, E1, k1⟩
  refine hb ρ1 y ρ2 σ Hf1 H1 e2 E1 _ fun w Hf2 H2 S2 E2 R2 k2 => ?_
  have B2 : Bh K Hf1 H1 ρ1 σ Hf2 H2 ρ2 := ⟨S2, E2, k2⟩
  have R1' := B1.keepR E B2 R1
  have hx := look_ok E2 R1' e3
  have hy := look_ok E2 R2 e4
  have B3 := B1.trans B2
  unfold fDget at e5
  split at e5
  · simp only [Option.bind_eq_some_iff, Option.map_eq_some_iff] at e5
    obtain ⟨k, h1, d, h2, rfl⟩ := e5
    obtain ⟨p, rfl, ws, hw, kw⟩ := hx
    obtain ⟨t, g1, g2⟩ := (kvs_get k kw).1 d h2
    have ey := keyC_ok h1 hy
    subst ey
    exact ⟨p, t, rfl, by rw [← g1]; exact .inl ⟨_, _, hw, rfl, rfl⟩, q t Hf2 H2 B3.st B3.en g2 B3.kp⟩
  · cases e5
/-- d[k] = v -/
theorem ss_dput {i : Nat} {te ti : TE} {a e : M} (ha : SE K te a) (he : SE K ti e) : SS K (sDPut (tVar i) ti te) (Py.sDput i e a) := by
  intro ρ f ρ' σ Hf H hm E D q
  simp only [Py.sDput, Option.bind_eq_some_iff] at hm
  obtain ⟨⟨x, ρ1⟩, e1, ⟨v, ρ2⟩, e2, ys, h0, ⟨y, ρ3⟩, e3, c, e4, k, e5, kvs, e6, e7⟩ := hm
  split at e7
  · rename_i hz
    cases e7
    refine ha ρ x ρ1 σ Hf H e1 E _ fun u Hf1 H1 S1 E1 R1 k1 => ?_
    have B1 : Bh K Hf H ρ σ Hf1 H1 ρ1 := ⟨S1, E1, k1⟩
    obtain ⟨Hf2, B2, d⟩ := B1.frz E R1 e2
    obtain ⟨p, o1, s1, f1, ⟨vs, hv, dv⟩, _⟩ := obAt_ok B2.en (dctAt_ok h0)
    refine ⟨_, slot_at s1, ?_⟩
    refine he ρ2 y ρ3 σ Hf2 H1 e3 B2.en _ fun w Hf3 H3 S3 E3 R3 k3 => ?_
    have B3' : Bh K Hf2 H1 ρ2 σ Hf3 H3 ρ3 := ⟨S3, E3, k3⟩
    have B3 := B2.trans B3'
    have ey := keyC_ok e5 (look_ok E3 R3 e4)
    subst ey
    obtain ⟨p', o2, s2, f2, ⟨ws, hw, kw⟩, hi⟩ := obAt_ok B3.en (dctAt_ok e6)
    rw [s1] at s2
    cases s2
    have d' := dp_mono S3.ff _ _ d
    have B4 := B3.trans (mut_ok (o := .dct kvs) (o' := .dct (dPut kvs k v)) (ho := .dK (putK ws k u)) B3.en o2 hi ⟨_, upd_same, kvs_put k kw d'⟩)
    exact ⟨p, _, rfl, DPut.k hw (by rw [kvs_len kw, ← line_eq]; exact hz), q σ Hf3 _ B4.s⟩
  · cases e7
end
section
variable {X : Cx} {a b e : Expr} {ma mb me : M} {x y : Str} {p p' apos pos pos' : Pos}
theorem be_dget (hu : X.A.units + 64 < cLine) (ha : BE X a ma) (hb : BE X b mb) (hs : NoSl b := by intro _ _; rfl) : BE X (.Subscript a b pos) (mOp fDget ma mb) := by
  obtain ⟨t, a1, a2⟩ := ha
  obtain ⟨u, b1, b2⟩ := hb
  exact ⟨_, pe_dget (by omega) a1 b1 hs, se_dget a2 b2⟩
end
end Py
/-! PyD: methods, slices. -/
namespace Py
open PySem PySem.Spec PyProof.Rows L2
section
variable {K : PySem.W.Frag} {Hf H Hf' H' Hf1 H1 Hf2 H2 H0 : Hp} {ρ ρ' ρ1 ρ2 : Env} {σ σ' σ1 σ2 : L2.St} {O O' O1 : Addr → Prop} {X : Cx}
end
section
variable {X : Cx} {a b e : Expr} {ma mb me : M} {x y : Str} {p p' apos pos pos' : Pos}
theorem bs_dput (i : Nat) (hu : X.A.units + 64 < cLine) (ho : PE X (.Name x p) (tVar i)) (he : BE X e me) (ha : BE X a ma) (hs : swapsWith a (some (.Subscript (.Name x p) e p')) pos.line X.env = pure false := by rfl) :
    BS X (.Assign [.Subscript (.Name x p) e p'] a pos) (Py.sDput i me ma) := by
  obtain ⟨t, a1, a2⟩ := ha
  obtain ⟨u, b1, b2⟩ := he
  exact ⟨_, ps_dput (by omega) ho b1 a1 hs, ss_dput a2 b2⟩
end
end Py
namespace Py
open PySem PySem.Spec PyProof.Rows L2
section
variable {X : Cx} {a b e : Expr} {ma mb me : M} {pos : Pos}
end
end Py
/-! PyE: t[::-1] of a tuple. -/
namespace HT
open PySem PySem.Spec PyProof.Rows
variable {prog : Program} {w : World} {A : Around} {E : Value → Shared → Prop} {s : Shared}
theorem sliceApplied_rev {sl : Addr} {vl vu vs : Value} {n : Nat} {Q : Int × Int × Nat → Shared → Prop} (hs : s.heap.IsSliceOf sl vl vu vs) (pl : IsPart vl none) (pu : IsPart vu none) (ps : IsPart vs (some (-1)))
    (h : Q ((n : Int) - 1, -1, n) s) : wpAny (model prog w) A (Builtin.Slice.sliceApplied (.ref sl) (pure (n : Int))) Q E s := by
  obtain ⟨os, hos, hcs, hds⟩ := id hs
  unfold Builtin.Slice.sliceApplied Builtin.Slice.sliceFields
  refine wpAny_bind (wpAny_bind (wpAny_field hos hds (x := vl) rfl (wpAny_bind (wpAny_field hos hds (x := vu) rfl (wpAny_bind (wpAny_field hos hds (x := vs) rfl (wpAny_pure ?_)))))))
  refine wpAny_bind (slicePart_ ps ?_)
  show wpAny _ _ (if ((-1 : Int) == 0) = true then _ else _) _ _ s
  rw [if_neg (by decide)]
  refine wpAny_bind (slicePart_ pl (wpAny_bind (slicePart_ pu (wpAny_bind (wpAny_pure ?_)))))
  show wpAny _ _ (match Builtin.Slice.sliceAdjust none none (-1) (n : Int) with | (lo, hi) => pure (lo, (-1 : Int), Builtin.Slice.slicePlaces lo hi (-1))) _ _ s
  have e1 : Builtin.Slice.sliceAdjust none none (-1) (n : Int) = ((n : Int) - 1, -1) := rfl
  have e2 : Builtin.Slice.slicePlaces ((n : Int) - 1) (-1) (-1) = n := by
    unfold Builtin.Slice.slicePlaces
    rw [if_neg (by decide)]
    split
    · have : -(-1 : Int) = 1 := by decide
      rw [this, Int.ediv_one]
      omega
    · omega
  rw [e1]
  show wpAny _ _ (pure ((n : Int) - 1, (-1 : Int), Builtin.Slice.slicePlaces ((n : Int) - 1) (-1) (-1))) _ _ s
  rw [e2]
  exact wpAny_pure h
theorem pick_rev (xs : Array Value) : ((List.range xs.size).filterMap fun (m : Nat) => xs[(((xs.size : Nat) : Int) - 1 + (m : Int) * -1).toNat]?).toArray = xs.toList.reverse.toArray := by
  congr 1
  apply List.ext_getElem?
  have key : ∀ (l : List Nat), (∀ m ∈ l, m < xs.size) → (l.filterMap fun (m : Nat) => xs[(((xs.size : Nat) : Int) - 1 + (m : Int) * -1).toNat]?) = l.map fun m => xs.toList.reverse.getD m .none := by
    intro l
    induction l with
    | nil => intro _; rfl
    | cons a l ih =>
      intro h
      have ha := h a List.mem_cons_self
      have e : (((xs.size : Nat) : Int) - 1 + (a : Int) * -1).toNat = xs.size - 1 - a := by omega
      have hl : xs.size - 1 - a < xs.size := by omega
      rw [List.filterMap_cons, List.map_cons, ih fun m hm => h m (List.mem_cons_of_mem _ hm), e, Array.getElem?_eq_getElem hl]
      have e2 : xs.toList.reverse.getD a .none = xs[xs.size - 1 - a] := by
        rw [List.getD_eq_getElem?_getD, List.getElem?_reverse (by simpa using ha)]
        simp [hl]
      rw [e2]
  intro i
  rw [key _ fun m hm => List.mem_range.mp hm]
  by_cases hi : i < xs.size
  · rw [List.getElem?_map, List.getElem?_range hi, List.getElem?_eq_getElem (by simpa using hi)]
    simp [List.getD_eq_getElem?_getD, hi]
  · rw [List.getElem?_eq_none (by simpa using hi), List.getElem?_eq_none (by simpa using hi)]
theorem getItem_tuple_rev {t sl : Addr} {items : Array Value} {vl vu vs : Value} {Q : Value → Shared → Prop} (ht : IsTup s.heap t items) (hs : s.heap.IsSliceOf sl vl vu vs) (pl : IsPart vl none) (pu : IsPart vu none) (ps : IsPart vs (some (-1)))
    (h : Q (.ref s.heap.objs.size) { s with heap := s.heap.push { cls := .type "tuple", data := .seq items.toList.reverse.toArray } })
    (hsz : items.size ≤ sizeLine) : wpAny (model prog w) A (getItem (.ref t) (.ref sl)) Q E s := by
  have htake : sizeOk (.seq items.toList.reverse.toArray) := by
    show items.toList.reverse.toArray.size ≤ sizeLine
    simpa using hsz
  obtain ⟨os, hos, hcs, hds⟩ := id hs
  have hTs : s.TypeIs (.ref sl) "slice" := ⟨os, hos, hcs⟩
  unfold getItem
  try with_reducible refine wpAny_holding ?_
  first | refine wpAny_bind (wpAny_pure ?_) | skip
  refine wpAny_bind (wpAny_sequenceKey ht.typeIs (by decide) ?_)
  refine wpAny_bind (wpAny_callSpecial?_slot (name := Str.ofString "__getitem__") ht.typeIs PyProof.Rows.slot_tuple_getitem
    (wpAny_call_entry PyProof.Rows.slot_tuple_getitem ht.typeIs entry_tuple_getitem ?_ (args_tuple_getitem _ _)))
  show wpAny _ _ (Builtin.Tuple.tupleItemsOf (.ref t) >>= _) _ _ s
  refine wpAny_bind (tupleItemsOf_ ht ?_)
  refine wpAny_bind (wpAny_typeOf hTs ?_)
  rw [if_pos (by decide)]
  refine wpAny_bind (sliceApplied_rev hs pl pu ps ?_)
  have hno : ¬ ((((items.size : Int) - 1) == 0 && (-1 : Int) == 1 && items.size == items.size) = true) := by
    intro q
    rw [Bool.and_eq_true, Bool.and_eq_true] at q
    exact absurd (eq_of_beq q.1.2) (by decide)
  show wpAny _ _ (if (((items.size : Int) - 1) == 0 && (-1 : Int) == 1 && items.size == items.size) = true then _ else _) _ _ s
  rw [if_neg hno, pick_rev]
  first
    | exact wpAny_bind (m := Builtin.Tuple.tupleExact _) (wpAny_newObj_type (wpAny_pure ⟨_, rfl, wpAny_pure h⟩) htake)
    | exact wpAny_bind (m := Builtin.Tuple.tupleExact _) (wpAny_newObj_type (wpAny_bind (wpAny_pure (wpAny_pure ⟨_, rfl, wpAny_pure h⟩))) htake)
    | exact wpAny_bind (wpAny_bind (m := Builtin.Tuple.tupleExact _) (wpAny_newObj_type (wpAny_pure (wpAny_pure ⟨_, rfl, wpAny_pure h⟩)) htake))
    | exact wpAny_bind (wpAny_bind (m := Builtin.Tuple.tupleExact _) (wpAny_newObj_type (wpAny_pure ⟨_, rfl, wpAny_pure h⟩) htake))
end HT
namespace L2
open PySem PySem.Spec PyProof.Rows
variable {X : Cx}
def tRevT (K : PySem.W.Frag) (te : TE) : TE := fun σ H Q => te σ H fun x H1 => ∃ a xs, x = .ref a ∧ SqT K H1 a xs ∧ ∀ p, H1 p = none → Q (.ref p) (upd H1 p (.tup xs.reverse))
theorem pe_revT {e : Expr} {te : TE} {k : Nat} {p1 p2 p3 pos : Pos} (he : PE X e te) : PE X (.Subscript e (.Slice none none (some (.UnaryOp .USub (.Constant (.int 1) k p1) p2)) p3) pos) (tRevT X.K te) := by
  refine ⟨fun pins s σ H Q I h => ?_⟩
  refine Subscript_ (thn (he.run pins s σ H _ I h) fun v s1 ⟨x, H1, I1, r1, q1⟩ => ?_)
  obtain ⟨a, xs, ex, hx, q⟩ := q1
  subst ex
  cases r1
  have hst : PO X (some (.UnaryOp .USub (.Constant (.int 1) k p1) p2)) (tPart (tUn (rU fun i => .int (-i)) (tC (.int 1)))) := po_some (pe_un un_neg pe_int)
  refine wpAny_Slice (thn (po_none.run pins s1 σ H1 (fun o H2 => o = none ∧ H2 = H1) I1 ⟨rfl, rfl⟩) fun vl s2 ⟨l, H2, I2, pl, el, e2⟩ => ?_)
  subst el e2
  refine thn (po_none.run pins s2 σ H2 (fun o H3 => o = none ∧ H3 = H2) I2 ⟨rfl, rfl⟩) fun vu s3 ⟨u, H3, I3, pu, eu, e3⟩ => ?_
  subst eu e3
  refine thn (hst.run pins s3 σ H3 (fun o H4 => o = some (-1) ∧ H4 = H3) I3 ⟨1, rfl, -1, rfl, rfl, rfl⟩) fun vs s4 ⟨o, H4, I4, ps, eo, e4⟩ => ?_
  subst eo e4
  have I5 : Inv X pins σ H4 { s4 with heap := s4.heap.push { cls := .type "slice", data := .fields #[vl, vu, vs] } } := I4.kept (t' := s4.toks) fun b ob q => Heap.get?_push_of_some _ q
  obtain ⟨its, r, ht, hz⟩ := I5.tuple hx
  have hlen := r.length
  show wpAny (model X.prog X.w) X.A (subscriptTail e (.Slice none none (some (.UnaryOp .USub (.Constant (.int 1) k p1) p2)) p3) (.ref a) (.ref s4.heap.objs.size)) (EP X pins σ Q) X.xe { s4 with heap := s4.heap.push { cls := .type "slice", data := .fields #[vl, vu, vs] } }
  refine tail_any (ops := [.ref a, .ref s4.heap.objs.size]) ht.typeIs (PyProof.Rows.slot_tuple_getitem.lookup) ?_ (by with_unfolding_all rfl)
  refine HT.getItem_tuple_rev ht (Heap.IsSliceOf.new _ vl vu vs) pl pu ps ?_ (by rw [List.size_toArray]; omega)
  refine ⟨.ref _, _, I5.laid (t' := s4.toks) (o := .tup xs.reverse) (fun b ob q => Heap.get?_push_of_some _ q) (Nat.le_refl _) ?_, rfl, q _ (I5.hok.fresh (Nat.le_refl _))⟩
  exact ⟨by rw [List.length_reverse]; exact hz, its.reverse, r.reverse, IsTup.new _ _⟩
end L2
namespace Py
open PySem PySem.Spec PyProof.Rows L2
theorem tup_ok {K : PySem.W.Frag} {Hf H : Hp} {c : Ct} {xs : List PV} {u : V} (e : Ex Hf H) (hc : RepC K Hf H c u) (h : c.tup? = some xs) : ∃ a us, u = .ref a ∧ SqT K H a us ∧ DpAll K Hf us xs := by
  unfold Ct.tup? at h
  split at h
  · cases h; cases hc with | tup hs ha => exact ⟨_, _, rfl, ex_t e hs, ha⟩
  · cases h
theorem se_revT {K : PySem.W.Frag} {te : TE} {a : M} (ha : SE K te a) : SE K (tRevT K te) (mUn fRevT a) := by
  intro ρ r ρ' σ Hf H hm E Q q
  simp only [mUn, Option.bind_eq_some_iff, Option.map_eq_some_iff, Prod.mk.injEq] at hm
  obtain ⟨⟨x, ρ1⟩, e1, c, e2, z, e3, rfl, rfl⟩ := hm
  refine ha ρ x ρ1 σ Hf H e1 E _ fun u Hf1 H1 S1 E1 R1 k1 => ?_
  have B1 : Bh K Hf H ρ σ Hf1 H1 ρ1 := ⟨S1, E1, k1⟩
  have hc := look_ok E1 R1 e2
  simp only [fRevT, Option.map_eq_some_iff] at e3
  obtain ⟨xs, h1, rfl⟩ := e3
  obtain ⟨p, us, ep, hs, da⟩ := tup_ok E1.ff hc h1
  refine ⟨p, us, ep, hs, fun t ht => ?_⟩
  obtain ⟨S, d⟩ := new_tup E1.ff (dps_rev da) ht
  have B2 := B1.more S
  exact q _ _ _ B2.st B2.en d B2.kp
theorem be_revT {X : Cx} {a : Expr} {ma : M} {k : Nat} {p1 p2 p3 pos : Pos} (ha : BE X a ma) : BE X (.Subscript a (.Slice none none (some (.UnaryOp .USub (.Constant (.int 1) k p1) p2)) p3) pos) (mUn fRevT ma) := let ⟨t, a1, a2⟩ := ha; ⟨_, pe_revT a1, se_revT a2⟩
end Py
/-! PyF0: further meanings. -/
namespace Py
open PySem
def Ct.dat : Ct → Option PV
  | .pv v => some v
  | .ob (.lst xs) => some (.list xs)
  | _ => none
/-- == of lists -/
def fEqA (neg : Bool) (c d : Ct) : Option R := c.dat.bind fun x => d.dat.bind fun y => if SeqAt.shaped x = true ∧ SeqAt.shaped y = true then some (.val (.bool (neg ^^ PyData.eqv x y))) else none
end Py
/-! PyF: == of lists. -/
namespace Py
open PySem PySem.Spec PyProof.Rows L2
section
variable {K : PySem.W.Frag} {Hf H : Hp} {X : Cx}
end
end Py
/-! PyG0: sorted, of tuples of ints; two clauses. -/
namespace Py
open PySem
def tupI? : PV → Option (List Int)
  | .tuple xs => ints? xs
  | _ => none
/-- before, of tuples of ints -/
def lexB : List Int → List Int → Bool
  | _, [] => false
  | [], _ :: _ => true
  | a :: as, b :: bs => decide (a < b) || (decide (a = b) && lexB as bs)
def lexLe (a b : List Int) : Bool := !lexB b a
def tsort (nss : List (List Int)) : List (List Int) := nss.mergeSort lexLe
def tupV (ns : List Int) : PV := .tuple (ns.map .int)
def fSortedT (c : Ct) : Option R := c.lst?.bind fun xs => (xs.mapM tupI?).bind fun nss => if nss.all (fun ns => !ns.isEmpty) = true then some (.new (.lst ((tsort nss).map tupV))) else none
/-- of a tuple of ints -/
def fSumT (c : Ct) : Option R := c.tup?.bind fun xs => (ints? xs).map fun ns => .val (.int ns.sum)
def fMaxT (c : Ct) : Option R := c.tup?.bind fun xs => (ints? xs).bind fun ns => if ns = [] then none else some (.val (.int (maxL ns)))
/-- [e for x in a if t for y in b if u] -/
def lcTurn2 (g : MG) (vs : List Nat) (t : MT) (it1 : MI) (g1 : MG) (vs1 : List Nat) (t1 : MT) (e : M) (x : PV) (ρ : Env) : Option (List PV × Env) :=
  (g (.val x) (wipe ρ vs)).bind fun ρ1 => (t ρ1).bind fun b => if b.1 then (it1 b.2).bind fun ys => if ys.1.length ≤ line then lcF (lcTurn g1 vs1 t1 e) ys.1 ys.2 else none else some ([], b.2)
def mLc2 (it : MI) (g : MG) (vs : List Nat) (t : MT) (it1 : MI) (g1 : MG) (vs1 : List Nat) (t1 : MT) (e : M) : M := fun ρ => (it ρ).bind fun xs => if xs.1.length ≤ line then
  (lcF (lcTurn2 g vs t it1 g1 vs1 t1 e) xs.1 xs.2).bind fun y => if y.1.length ≤ line then some (.new (.lst y.1), back xs.2 vs y.2) else none else none
theorem lexB_irr : ∀ a : List Int, lexB a a = false
  | [] => rfl
  | a :: as => by simp [lexB, lexB_irr as]
theorem lexB_anti : ∀ a b : List Int, lexB a b = false → lexB b a = false → a = b
  | [], [], _, _ => rfl
  | [], _ :: _, h, _ => by simp [lexB] at h
  | _ :: _, [], _, h => by simp [lexB] at h
  | a :: as, b :: bs, h1, h2 => by
    simp only [lexB, Bool.or_eq_false_iff, decide_eq_false_iff_not, Bool.and_eq_false_iff] at h1 h2
    have e : a = b := by omega
    subst e
    rw [lexB_anti as bs (by simpa using h1.2) (by simpa using h2.2)]
theorem lexB_tr : ∀ a b c : List Int, lexB a b = true → lexB b c = true → lexB a c = true
  | _, _, [], _, h => by simp [lexB] at h
  | _, [], _ :: _, h, _ => by simp [lexB] at h
  | [], _ :: _, _ :: _, _, _ => rfl
  | a :: as, b :: bs, c :: cs, h1, h2 => by
    simp only [lexB, Bool.or_eq_true, decide_eq_true_eq, Bool.and_eq_true] at *
    rcases h1 with h1 | ⟨rfl, h1⟩
    · rcases h2 with h2 | ⟨rfl, h2⟩
      · exact .inl (by omega)
      · exact .inl h1
    · rcases h2 with h2 | ⟨rfl, h2⟩
      · exact .inl h2
      · exact .inr ⟨rfl, lexB_tr as bs cs h1 h2⟩
theorem lexB_neg : ∀ a b c : List Int, lexB a c = true → lexB a b = true ∨ lexB b c = true
  | _, _, [], h => by simp [lexB] at h
  | [], [], _ :: _, _ => .inr rfl
  | [], _ :: _, _ :: _, _ => .inl rfl
  | _ :: _, [], _ :: _, _ => .inr rfl
  | a :: as, b :: bs, c :: cs, h => by
    simp only [lexB, Bool.or_eq_true, decide_eq_true_eq, Bool.and_eq_true] at *
    rcases h with h | ⟨rfl, h⟩
    · by_cases h1 : a < b
      · exact .inl (.inl h1)
      · by_cases h2 : b < c
        · exact .inr (.inl h2)
        · omega
    · by_cases h1 : a < b
      · exact .inl (.inl h1)
      · by_cases h2 : b < a
        · exact .inr (.inl h2)
        · have e : a = b := by omega
          subst e
          rcases lexB_neg as bs cs h with z | z
          · exact .inl (.inr ⟨rfl, z⟩)
          · exact .inr (.inr ⟨rfl, z⟩)
theorem lexLe_tr (a b c : List Int) (h1 : lexLe a b = true) (h2 : lexLe b c = true) : lexLe a c = true := by
  unfold lexLe at *
  cases h : lexB c a with
  | false => rfl
  | true => rcases lexB_neg c b a h with z | z <;> simp [z] at h1 h2
theorem lexLe_total (a b : List Int) : (lexLe a b || lexLe b a) = true := by
  unfold lexLe
  cases h : lexB b a with
  | false => rfl
  | true =>
    cases h2 : lexB a b with
    | false => rfl
    | true => have := lexB_tr _ _ _ h h2; rw [lexB_irr] at this; cases this
theorem lexLe_anti (a b : List Int) (h1 : lexLe a b = true) (h2 : lexLe b a = true) : a = b := by
  unfold lexLe at *
  exact lexB_anti a b (by simpa using h2) (by simpa using h1)
theorem tsort_perm (nss : List (List Int)) : (tsort nss).Perm nss := List.mergeSort_perm _ _
theorem tsort_sorted (nss : List (List Int)) : (tsort nss).Pairwise (fun a b => lexLe a b = true) :=
  List.pairwise_mergeSort lexLe_tr lexLe_total nss
theorem tsort_eq {nss mss : List (List Int)} (p : mss.Perm nss) (h : mss.Pairwise fun a b => lexLe a b = true) : tsort nss = mss :=
  List.Perm.eq_of_pairwise (fun a b _ _ h1 h2 => lexLe_anti a b h1 h2) (tsort_sorted nss) h ((tsort_perm nss).trans p.symm)
end Py
/-! PyG: sorted, of tuples of ints. -/
namespace Py
open PySem PySem.Spec PyProof.Rows L2
theorem lexB_lt (O : PyProof.Rows.KeyOrd) : ∀ (a b : List Int), PyProof.Rows.lexLt PyProof.Rows.itemOrd (a.map Sum.inl) (b.map Sum.inl) = lexB a b
  | [], [] => rfl
  | [], _ :: _ => rfl
  | _ :: _, [] => rfl
  | a :: as, b :: bs => by
    have ih := lexB_lt O as bs
    rw [List.map_cons, List.map_cons, PyProof.Rows.lex_cons, ih]
    show (decide (a < b) || (!decide (b < a) && lexB as bs)) = (decide (a < b) || (decide (a = b) && lexB as bs))
    by_cases h1 : a < b
    · simp [h1]
    · by_cases h2 : a = b
      · subst h2; simp
      · have h3 : b < a := by omega
        simp [h1, h2, h3]
section
variable {K : PySem.W.Frag} {Hf H : Hp} {X : Cx}
theorem tupItems_ints : ∀ {vs : List Value} {ns : List Int} (i : Nat), IntsAre vs ns → PyProof.Rows.tupItems (fun _ => false) i vs = some (ns.map Sum.inl)
  | _, _, _, .nil => rfl
  | _, _, i, .cons n t r => by
    unfold PyProof.Rows.tupItems
    rw [if_neg (by simp), tupItems_ints (i + 1) r]
    rfl
theorem tupKeyC_ints {h : Heap} {v : Value} {ns : List Int} (t : TS.TupInts h v ns) : PyProof.Rows.G.tupKeyC h (fun _ => false) v = some (ns.map Sum.inl) := by
  obtain ⟨a, xs, rfl, ⟨o, ho, hc, n, hd⟩, hi⟩ := t
  have e : PyProof.Rows.G.isTupObj h (.ref a) = true := by simp [PyProof.Rows.G.isTupObj, ho, hc]
  unfold PyProof.Rows.G.tupKeyC
  rw [if_pos e]
  simp only [PyProof.Rows.tupKey, ho, hd]
  exact tupItems_ints 0 hi
theorem tupOf_ints {h : Heap} {v : Value} {ns : List Int} (t : TS.TupInts h v ns) (hn : ns ≠ []) : ∃ f, PyProof.Rows.TupOf h (fun _ => false) v f := by
  obtain ⟨a, xs, rfl, ⟨o, ho, hc, n, hd⟩, hi⟩ := t
  obtain ⟨xl⟩ := xs
  cases hi with
  | nil => exact absurd rfl hn
  | cons k tk r => exact ⟨_, a, o, _, n, rfl, ho, hc, hd, rfl, fun _ => ⟨k, tk, rfl⟩, fun z => by cases z⟩
theorem tupsOf_ints {h : Heap} : ∀ (vs : List Value), (∀ v ∈ vs, ∃ ns, ns ≠ [] ∧ TS.TupInts h v ns) → ∃ fs, PyProof.Rows.TupsOf h (fun _ => false) vs fs
  | [], _ => ⟨[], .nil⟩
  | v :: vs, hh => by
    obtain ⟨ns, hn, t⟩ := hh v List.mem_cons_self
    obtain ⟨f, hf⟩ := tupOf_ints t hn
    obtain ⟨fs, hfs⟩ := tupsOf_ints vs fun w hw => hh w (List.mem_cons_of_mem _ hw)
    exact ⟨f :: fs, .cons hf hfs⟩
/-- sorted(xs), xs a list of tuples of ints -/
def rSortV (K : PySem.W.Frag) : List V → Hp → VK → Prop := fun vs H Q => ∃ (a : Addr) (xs : List V), vs = [V.ref a] ∧ SqL K H a xs ∧ (∀ x ∈ xs, ∃ ns, ns ≠ [] ∧ TupI K H x ns) ∧
  ∀ (ys : List V) (p : Addr), ys.Perm xs → ys.Pairwise (fun x y => ∀ n m, TupI K H x n → TupI K H y m → lexLe n m = true) → H p = none → Q (.ref p) (upd H p (.lst ys))
theorem pairs_snd (vs : List Value) (out : Array PyProof.Rows.Keyed) (h : out.Perm (PyProof.Rows.pairsOf vs)) : (out.map (·.2)).toList.Perm vs ∧ ∀ p ∈ out.toList, p.1 = p.2 := by
  have h' : out.toList.Perm (PyProof.Rows.pairsOf vs).toList := Array.perm_iff_toList_perm.mp h
  rw [PyProof.Rows.pairsOf_toList] at h'
  refine ⟨?_, fun p hp => (PyProof.Rows.mem_zip_self (h'.mem_iff.mp hp)).1⟩
  rw [Array.toList_map]
  have z := h'.map Prod.snd
  rwa [List.map_snd_zip (Nat.le_refl _)] at z
theorem cr_sortV : CallR X (.builtin "sorted") (rSortV X.K) := by
  intro pins s σ H vs us Q I r h
  obtain ⟨a, xs, rfl, hs, hx, q⟩ := h
  obtain ⟨its, rv, hl, hz⟩ := I.list hs
  rw [Vals.ref1 r]
  obtain ⟨e1, e2⟩ := bkV_refs rv fun x m => by
    obtain ⟨ns, _, ⟨t, e, _⟩⟩ := hx x m
    exact ⟨t, e⟩
  have raw : ∀ v ∈ its, ∃ ns, ns ≠ [] ∧ TS.TupInts s.heap v ns := fun v hv => by
    obtain ⟨t, rfl⟩ := e2 v hv
    have hm : V.ref t ∈ xs := by
      rw [e1]
      exact List.mem_map.mpr ⟨_, hv, rfl⟩
    obtain ⟨ns, hn, ⟨t', e, ht⟩⟩ := hx _ hm
    cases e
    exact ⟨ns, hn, tupI_raw I ht⟩
  obtain ⟨fs, hfs⟩ := tupsOf_ints its raw
  refine PyProof.Rows.G.sorted_tups (shape := fun _ => false) hl.isList hfs (fun v hv => ?_) (by rw [← rv.length]; exact hz) fun st' h1 h2 h3 => ?_
  · obtain ⟨ns, _, t⟩ := raw v hv
    exact ⟨_, tupKeyC_ints t⟩
  · obtain ⟨p1, p2⟩ := pairs_snd its _ h1
    generalize hout : (PyProof.Rows.arrOf st').map (·.2) = out at p1 ⊢
    obtain ⟨ep, he'⟩ := PyProof.Rows.sortedAll_at s.heap its out
    have h4 : ∀ u ∈ out.toList, ∃ a, u = Value.ref a := fun u hu => e2 u (p1.mem_iff.mp hu)
    have hp : (out.toList.map bkV).Perm xs := by
      rw [e1]
      exact p1.map bkV
    have hlen : (out.toList.map bkV).length ≤ sizeLine := by
      rw [hp.length_eq]
      exact hz
    refine ⟨.ref _, upd H (s.heap.objs.size + 1) (.lst (out.toList.map bkV)), I.laid (t' := s.toks) (fun _ _ => PyProof.Rows.sortedAll_old) (Nat.le_succ _) ⟨hlen, out.toList, ep, bkV_vals h4, he'⟩, rfl, q _ _ hp ?_ (I.hok.fresh (Nat.le_succ _))⟩
    rw [List.pairwise_map, List.pairwise_iff_getElem]
    intro i j hi hj hij n m hn hm
    have ho : out = (PyProof.Rows.arrOf st').map (·.2) := hout.symm
    have hsz : out.size = (PyProof.Rows.arrOf st').size := by rw [ho, Array.size_map]
    have hi' : i < (PyProof.Rows.arrOf st').size := by rw [← hsz]; simpa using hi
    have hj' : j < (PyProof.Rows.arrOf st').size := by rw [← hsz]; simpa using hj
    have at_ : ∀ (k : Nat) (hk : k < out.toList.length) (hk' : k < (PyProof.Rows.arrOf st').size) (nk : List Int), TupI X.K H (bkV out.toList[k]) nk → PyProof.Rows.KK (PyProof.Rows.G.tupKindC s.heap fun _ => false) (PyProof.Rows.arrOf st') k = nk.map Sum.inl := by
      intro k hk hk' nk hnk
      obtain ⟨t, et, ht⟩ := hnk
      have eu := bkV_ref et
      have tr := tupI_raw I ht
      rw [← eu] at tr
      have ek : out.toList[k] = (PyProof.Rows.arrOf st')[k].2 := by simp [ho]
      have e1' := p2 (PyProof.Rows.arrOf st')[k] (by simp)
      rw [ek, ← e1'] at tr
      unfold PyProof.Rows.KK
      rw [Array.getElem?_eq_getElem hk']
      show ((PyProof.Rows.G.tupKindC s.heap fun _ => false).keyOf _).getD _ = _
      have := tupKeyC_ints tr
      show (PyProof.Rows.G.tupKeyC s.heap (fun _ => false) _).getD [] = _
      rw [this]; rfl
    have hle := h2 i j (Nat.le_of_lt hij) (by rw [← h1.size_eq]; exact hj')
    rw [at_ i hi hi' n hn, at_ j hj hj' m hm] at hle
    have hle' : PyProof.Rows.lexLt PyProof.Rows.itemOrd (m.map Sum.inl) (n.map Sum.inl) = false := hle
    rw [lexB_lt PyProof.Rows.itemOrd] at hle'
    unfold lexLe
    rw [hle']; rfl
/-! the meaning -/
theorem dps_perm : ∀ {us vs : List V} {ds : List PV}, vs.Perm us → DpAll K Hf us ds → ∃ es, es.Perm ds ∧ DpAll K Hf vs es := by
  intro us vs ds p
  induction p generalizing ds with
  | nil => intro h; exact ⟨ds, .refl _, h⟩
  | cons x p ih =>
    intro h
    cases h with
    | cons r t =>
      obtain ⟨es, e1, e2⟩ := ih t
      exact ⟨_ :: es, e1.cons _, .cons r e2⟩
  | swap x y l =>
    intro h
    cases h with
    | cons r t =>
      cases t with
      | cons r2 t => exact ⟨_ :: _ :: _, .swap _ _ _, .cons r2 (.cons r t)⟩
  | trans p1 p2 ih1 ih2 =>
    intro h
    obtain ⟨es, e1, e2⟩ := ih2 h
    obtain ⟨fs, f1, f2⟩ := ih1 e2
    exact ⟨fs, f1.trans e1, f2⟩
theorem ints_mapI {xs : List PV} {ns : List Int} (h : ints? xs = some ns) : xs = ns.map .int := by
  induction xs generalizing ns with
  | nil => cases h; rfl
  | cons x xs ih =>
    unfold ints? at h ih
    simp only [List.mapM_cons, Option.bind_eq_bind, Option.bind_eq_some_iff] at h
    obtain ⟨n, h1, ms, h2, h3⟩ := h
    cases h3
    cases x <;> simp [intV?] at h1
    subst h1
    rw [ih h2]; rfl
theorem tupI_map {xs : List PV} {nss : List (List Int)} (h : xs.mapM tupI? = some nss) : xs = nss.map tupV := by
  induction xs generalizing nss with
  | nil => cases h; rfl
  | cons x xs ih =>
    simp only [List.mapM_cons, Option.bind_eq_bind, Option.bind_eq_some_iff] at h
    obtain ⟨n, h1, ms, h2, h3⟩ := h
    cases h3
    rw [ih h2]
    cases x with
    | tuple ys => rw [ints_mapI (show ints? ys = some n from h1)]; rfl
    | _ => cases h1
theorem dp_tupI {ns : List Int} {u : V} (e : Ex Hf H) (d : Dp K Hf u (tupV ns)) : TupI K H u ns := by
  cases d with
  | tup hs ha =>
    have : ∀ {ns : List Int} {us : List V}, DpAll K Hf us (ns.map PyData.int) → us = ns.map V.int := by
      intro ns
      induction ns with
      | nil => intro us h; cases h; rfl
      | cons n ns ih =>
        intro us h
        cases h with
        | cons r t => cases r; rw [ih t]; rfl
    rw [this ha] at hs
    exact ⟨_, rfl, ex_t e hs⟩
theorem c_sortedT : C1 X (.builtin "sorted") fSortedT := ⟨_, cr_sortV, fun Hf H c x z e hc e5 Q q => by
  simp only [fSortedT, Option.bind_eq_some_iff] at e5
  obtain ⟨xs, h1, nss, h2, h3⟩ := e5
  split at h3
  · rename_i hne
    cases h3
    obtain ⟨a, us, rfl, hs, d⟩ := lst_ok e hc h1
    rw [tupI_map h2] at d
    have hne' : ∀ ns ∈ nss, ns ≠ [] := fun ns hn z => by
      have := List.all_eq_true.mp hne ns hn
      rw [z] at this; cases this
    have rep : ∀ {us : List V} {nss : List (List Int)}, DpAll X.K Hf us (nss.map tupV) → ∀ x ∈ us, ∃ ns ∈ nss, TupI X.K H x ns := by
      intro us
      induction us with
      | nil => intro nss _ x hx; cases hx
      | cons u us ih =>
        intro nss h x hx
        cases nss with
        | nil => cases h
        | cons n nss =>
          cases h with
          | cons r t =>
            rcases List.mem_cons.mp hx with rfl | hx
            · exact ⟨n, List.mem_cons_self, dp_tupI e r⟩
            · obtain ⟨m, hm, tm⟩ := ih t x hx
              exact ⟨m, List.mem_cons_of_mem _ hm, tm⟩
    refine ⟨a, us, rfl, hs, fun x hx => ?_, fun ys p h3 h4 hp => ?_⟩
    · obtain ⟨ns, hn, t⟩ := rep d x hx
      exact ⟨ns, hne' ns hn, t⟩
    obtain ⟨es, e1, e2⟩ := dps_perm h3 d
    obtain ⟨mss, hm1, hm2⟩ : ∃ mss : List (List Int), es = mss.map tupV ∧ mss.Perm nss := by
      have : ∀ {es ds : List PV}, es.Perm ds → ∀ nss : List (List Int), ds = nss.map tupV → ∃ mss : List (List Int), es = mss.map tupV ∧ mss.Perm nss := by
        intro es ds p
        induction p with
        | nil => intro nss h; exact ⟨nss, h, .refl _⟩
        | cons x p ih =>
          intro nss h
          cases nss with
          | nil => cases h
          | cons n nss =>
            rw [List.map_cons, List.cons.injEq] at h
            obtain ⟨mss, m1, m2⟩ := ih nss h.2
            exact ⟨n :: mss, by rw [h.1, m1]; rfl, m2.cons _⟩
        | swap x y l =>
          intro nss h
          cases nss with
          | nil => cases h
          | cons n nss =>
            cases nss with
            | nil => cases h
            | cons m nss =>
              rw [List.map_cons, List.map_cons, List.cons.injEq, List.cons.injEq] at h
              exact ⟨m :: n :: nss, by rw [h.1, h.2.1, h.2.2]; rfl, .swap _ _ _⟩
        | trans p1 p2 ih1 ih2 =>
          intro nss h
          obtain ⟨mss, m1, m2⟩ := ih2 nss h
          obtain ⟨kss, k1, k2⟩ := ih1 mss m1
          exact ⟨kss, k1, k2.trans m2⟩
      exact this e1 nss rfl
    subst hm1
    have hs4 : mss.Pairwise fun a b => lexLe a b = true := by
      have : ∀ {ys : List V} {mss : List (List Int)}, ys.Pairwise (fun x y => ∀ n m, TupI X.K H x n → TupI X.K H y m → lexLe n m = true) → DpAll X.K Hf ys (mss.map tupV) → mss.Pairwise fun a b => lexLe a b = true := by
        intro ys
        induction ys with
        | nil => intro mss _ h; cases mss with | nil => exact .nil | cons => cases h
        | cons y ys ih =>
          intro mss hpw h
          cases mss with
          | nil => cases h
          | cons n mss =>
            cases h with
            | cons r t =>
              rw [List.pairwise_cons] at hpw ⊢
              refine ⟨fun m hm => ?_, ih hpw.2 t⟩
              have : ∀ {ys : List V} {mss : List (List Int)}, DpAll X.K Hf ys (mss.map tupV) → ∀ m ∈ mss, ∃ y ∈ ys, TupI X.K H y m := by
                intro ys
                induction ys with
                | nil => intro mss h m hm; cases mss with | nil => cases hm | cons => cases h
                | cons y ys ih =>
                  intro mss h m hm
                  cases mss with
                  | nil => cases h
                  | cons k mss =>
                    cases h with
                    | cons r t =>
                      rcases List.mem_cons.mp hm with rfl | hm
                      · exact ⟨y, List.mem_cons_self, dp_tupI e r⟩
                      · obtain ⟨z, hz, tz⟩ := ih t m hm
                        exact ⟨z, List.mem_cons_of_mem _ hz, tz⟩
              obtain ⟨z, hz, tz⟩ := this t m hm
              exact hpw.1 z hz n m (dp_tupI e r) tz
      exact this h4 e2
    rw [tsort_eq hm2 hs4] at q
    exact newL e e2 q p hp
  · cases h3⟩
end
end Py

namespace Py
open PySem PySem.Spec PyProof.Rows L2
section
variable {prog : Program} {w : World} {A : Around} {E : Value → Shared → Prop} {s : Shared} {t : Addr} {xs : Array (Int × Tok)} {its : List Value} {ns : List Int} {Q : Value → Shared → Prop}
end
section
variable {K : PySem.W.Frag} {Hf H : Hp} {X : Cx}
def rSumT (K : PySem.W.Frag) : List V → Hp → VK → Prop := fun vs H Q => ∃ (a : Addr) (ns : List Int), vs = [V.ref a] ∧ SqT K H a (ns.map V.int) ∧ Q (.int ns.sum) H
def rMaxT (K : PySem.W.Frag) : List V → Hp → VK → Prop := fun vs H Q => ∃ (a : Addr) (ns : List Int), vs = [V.ref a] ∧ SqT K H a (ns.map V.int) ∧ 0 < ns.length ∧ ∀ m, m ∈ ns → (∀ y, y ∈ ns → y ≤ m) → Q (.int m) H
end
end Py
/-! PyH: comprehensions of two clauses. -/
namespace Py
open PySem PySem.Spec PyProof.Rows L2
section
variable {K : PySem.W.Frag} {Hf H Hf' H' Hf1 H1 Hf2 H2 H0 : Hp} {ρ ρ' ρ1 ρ2 : Env} {σ σ' σ1 σ2 : L2.St} {O O' O1 : Addr → Prop} {X : Cx}
/-- as SI, over any objects that were there ahead -/
def SI2 (K : PySem.W.Frag) (wi : TI) (m : MI) : Prop := ∀ (ρ : Env) (xs : List PV) (ρ' : Env) (σ : L2.St) (Hf H : Hp), m ρ = some (xs, ρ') → RepE K Hf H ρ σ → ∀ R : It → Hp → Prop,
  (∀ J Hf' H', Bh K Hf H ρ σ Hf' H' ρ' → (∀ O : Addr → Prop, (∀ p, O p → H p ≠ none) → Walk K J xs O Hf' H') → R J H') → wi σ H R
structure BI2 (X : Cx) (tg e : Expr) (m : MI) : Prop where
  ex : ∃ wi, PI X tg e wi ∧ SI2 X.K wi m
theorem si2_seq {te : TE} {a : M} (ha : SE K te a) : SI2 K (iSq K te) (iSeq a) := by
  intro ρ xs ρ' σ Hf H hm E R q
  simp only [iSeq, Option.bind_eq_some_iff] at hm
  obtain ⟨⟨x, ρ1⟩, e1, e2⟩ := hm
  refine ha ρ x ρ1 σ Hf H e1 E _ fun u Hf1 H1 S1 E1 R1 k1 => ?_
  have B1 : Bh K Hf H ρ σ Hf1 H1 ρ1 := ⟨S1, E1, k1⟩
  cases x with
  | val v =>
    have R1' : Dp K Hf1 u v := R1
    cases v with
    | list ys =>
      cases e2
      cases R1' with
      | lst hs d => exact ⟨_, rfl, .inl ⟨⟨_, ex_l E1.ff hs⟩, q _ Hf1 H1 B1 fun O _ => walk_l (fun Hf2 H2 S => ex_l S.fh (ex_l S.ff hs)) d⟩⟩
    | tuple ys =>
      cases e2
      cases R1' with
      | tup hs d => exact ⟨_, rfl, .inr ⟨⟨_, ex_t E1.ff hs⟩, q _ Hf1 H1 B1 fun O _ => walk_t (fun Hf2 H2 S => ex_t S.fh (ex_t S.ff hs)) d⟩⟩
    | none => cases e2
    | bool b => cases e2
    | int i => cases e2
    | str y => cases e2
    | dict y => cases e2
  | new o =>
    cases o with
    | lst ys =>
      cases e2
      obtain ⟨p, rfl, z, f, us, hu, d⟩ := R1
      exact ⟨p, rfl, .inl ⟨⟨us, SqL.of hu⟩, q _ Hf1 H1 B1 fun O hO => walk_l (fun Hf2 H2 S => SqL.of (S.keep p _ hu fun w => hO p w z)) d⟩⟩
    | dct ys => cases e2
  | bor i => cases e2
structure LcO (K : PySem.W.Frag) (O : Addr → Prop) (Hf1 H1 : Hp) (ρ1 : Env) (σ : L2.St) (vs : List Nat) (D : Addr) (done : List PV) (ρ2 : Env) (Hf2 H2 : Hp) : Prop where
  acc : ∃ us, H2 D = some (.lst us) ∧ DpAll K Hf2 us done
  few : done.length ≤ line
  fd : Hf2 D = none
  st : Step O Hf1 H1 Hf2 H2
  en : RepE K Hf2 H2 (Py.wipe ρ2 vs) (L2.wipe σ vs)
  nm : Nm vs ρ1 ρ2
theorem wipe_wipe (σ : L2.St) (vs : List Nat) : L2.wipe (L2.wipe σ vs) vs = L2.wipe σ vs := by
  apply List.ext_getElem?
  intro j
  rw [wipe_get?, wipe_length, wipe_get?]
  by_cases hj : j ∈ vs ∧ j < σ.length <;> simp [hj]
/-- a target stored in a block -/
theorem lc_tg {g : TG} {mg : MG} {vs : List Nat} {D : Addr} {done : List PV} {x : PV} {u : V} {ρ4 : Env} (hO : ∀ p, Own (Py.wipe ρ1 vs) (L2.wipe σ vs) p → O p) (nD1 : ¬ Own (Py.wipe ρ1 vs) (L2.wipe σ vs) D) (hg : SG K g mg) (hv : TgIn g mg vs) (len1 : ρ1.length = σ.length)
    (L : LcO K O Hf1 H1 ρ1 σ vs D done ρ2 Hf2 H2) (hx : Dp K Hf2 u x) (e1 : mg (.val x) (Py.wipe ρ2 vs) = some ρ4) {Q : L2.St → Hp → Prop}
    (hQ : ∀ σ4 Hf4, L2.wipe σ4 vs = L2.wipe σ vs → RepE K Hf4 H2 ρ4 σ4 → (∀ {Hf5 H5 : Hp} {ρ5 : Env}, Bh K Hf4 H2 ρ4 σ4 Hf5 H5 ρ5 → Step O Hf1 H1 Hf5 H5 ∧ RepE K Hf5 H5 (Py.wipe ρ5 vs) (L2.wipe σ vs) ∧ Nm vs ρ1 ρ5 ∧ (∃ us, H5 D = some (.lst us) ∧ DpAll K Hf5 us done) ∧ Hf5 D = none ∧ ¬ Own ρ5 σ4 D ∧ ∀ p, Own ρ5 σ4 p → Own (Py.wipe ρ1 vs) (L2.wipe σ vs) p ∨ H1 p = none) → Q σ4 H2) :
    g u (L2.wipe σ vs) H2 fun σ2 H3 => L2.wipe σ2 vs = L2.wipe σ vs ∧ Q σ2 H3 := by
  have ww := wipe_wipe σ vs
  have kn : ∀ q, Own (Py.wipe ρ2 vs) (L2.wipe σ vs) q → H2 q ≠ none := fun q hq z => by
    obtain ⟨⟨o, ho⟩, _⟩ := L.en.there hq
    rw [z] at ho; cases ho
  have g1 : g u (L2.wipe σ vs) H2 fun σ4 H3 => H3 = H2 ∧ ∃ Hf4, BhG K Hf2 H2 H2 (Py.wipe ρ2 vs) (L2.wipe σ vs) Hf4 ρ4 σ4 := hg (.val x) (Py.wipe ρ2 vs) ρ4 (L2.wipe σ vs) Hf2 H2 H2 u e1 L.en hx kn _ fun σ4 Hf4 B4 => ⟨rfl, Hf4, B4⟩
  refine hv.c u _ _ _ _ ?_ (hv.a u _ _ _ g1)
  rintro σ4 H3 ⟨⟨rfl, Hf4, B4⟩, w4⟩
  rw [ww] at w4
  refine ⟨w4, ?_⟩
  obtain ⟨us, hus, dus⟩ := L.acc
  have own4 : ∀ p, Own ρ4 σ4 p → Own (Py.wipe ρ1 vs) (L2.wipe σ vs) p ∨ H1 p = none ∧ H3 p = none := fun p hp => by
    rcases B4.own p hp with z | z
    · exact .inl (own_wipe L.nm z)
    · exact .inr ⟨L.st.fresh z, z⟩
  have nD4 : ¬ Own ρ4 σ4 D := fun h => by
    rcases own4 D h with z | ⟨_, z⟩
    · exact nD1 z
    · rw [hus] at z; cases z
  have nm4 : ∀ j, j ∉ vs → get ρ4 j = get ρ2 j := fun j hj => by rw [hv.b x _ _ e1 j hj, get_wipe, if_neg hj]
  have len4 : ρ4.length = ρ1.length := by
    rw [B4.en.len, ← wipe_length σ4 vs, w4, wipe_length, ← len1]
  have st4 : Step O Hf1 H1 Hf4 H3 := L.st.trans B4.st fun p hp => by
    rcases hp with z | z
    · exact .inl (hO p (own_wipe L.nm z))
    · exact .inr (L.st.fresh z)
  have fd4 : Hf4 D = none := by rw [B4.st.nof D _ hus (fun z => by rcases z with z | z; exact nD1 (own_wipe L.nm z); rw [hus] at z; cases z)]; exact L.fd
  refine hQ σ4 Hf4 w4 B4.en fun {Hf5 H5 ρ5} B => ?_
  refine ⟨st4.trans B.st fun p hp => (own4 p hp).imp (hO p) (·.1), ?_, ⟨?_, fun j hj => ⟨fun h => ?_, ?_⟩⟩, ⟨us, B.st.keep D _ hus nD4, dps_mono B.st.ff _ _ (dps_mono B4.st.ff _ _ dus)⟩, ?_, fun h => nD4 (B.kp.sub h), fun p h => (own4 p (B.kp.sub h)).imp id (·.1)⟩
  · have := B.en.wipe vs
    rw [w4] at this
    exact this
  · rw [B.en.len, ← B4.en.len]; exact len4
  · have h4 := B.kp.own j h
    rw [nm4 j hj] at h4
    exact (L.nm.2 j hj).1 h4
  · rw [B.kp.ref j, nm4 j hj]; exact (L.nm.2 j hj).2
  · rw [B.st.nof D _ hus nD4]; exact fd4
theorem lc_turnO {g : TG} {mg : MG} {tt : TT} {te : TE} {t : MT} {e : M} {vs : List Nat} {D : Addr} {done ys : List PV} {x : PV} {u : V} {ρ3 : Env} (hO : ∀ p, Own (Py.wipe ρ1 vs) (L2.wipe σ vs) p → O p) (hOD : O D ∨ H1 D = none) (nD1 : ¬ Own (Py.wipe ρ1 vs) (L2.wipe σ vs) D)
    (hg : SG K g mg) (hv : TgIn g mg vs) (ht : ST K tt t) (he : SE K te e) (len1 : ρ1.length = σ.length)
    (hz : (done ++ ys).length ≤ line) (L : LcO K O Hf1 H1 ρ1 σ vs D done ρ2 Hf2 H2) (hx : Dp K Hf2 u x) (hm : lcTurn mg vs t e x ρ2 = some (ys, ρ3)) {Nx : Hp → Prop} (hN : ∀ Hf3 H3, LcO K O Hf1 H1 ρ1 σ vs D (done ++ ys) ρ3 Hf3 H3 → Nx H3) :
    g u (L2.wipe σ vs) H2 fun σ2 H3 => L2.wipe σ2 vs = L2.wipe σ vs ∧ tt σ2 H3 fun b H4 =>
      if b = true then te σ2 H4 fun y H5 => ∃ acc, H5 D = some (.lst acc) ∧ acc.length < sizeLine ∧ Nx (upd H5 D (.lst (acc ++ [y]))) else Nx H4 := by
  simp only [lcTurn, Option.bind_eq_some_iff] at hm
  obtain ⟨ρ4, e1, ⟨b, ρ5⟩, e2, e3⟩ := hm
  refine lc_tg hO nD1 hg hv len1 L hx e1 fun σ4 Hf4 w4 E4 fin => ?_
  refine ht ρ4 b ρ5 σ4 Hf4 H2 e2 E4 _ fun Hf5 H5 S5 E5 k5 => ?_
  have B5 : Bh K Hf4 H2 ρ4 σ4 Hf5 H5 ρ5 := ⟨S5, E5, k5⟩
  cases b with
  | false =>
    simp only [Bool.false_eq_true, if_false] at e3 ⊢
    cases e3
    obtain ⟨f1, f2, f3, f4, f5, f6⟩ := fin B5
    rw [List.append_nil] at hN
    exact hN Hf5 H5 ⟨f4, L.few, f5, f1, f2, f3⟩
  | true =>
    simp only [if_true, Option.bind_eq_some_iff, Option.map_eq_some_iff, Prod.mk.injEq] at e3 ⊢
    obtain ⟨⟨r, ρ6⟩, e4, ⟨v, ρ7⟩, e5, rfl, rfl⟩ := e3
    refine he ρ5 r ρ6 σ4 Hf5 H5 e4 E5 _ fun y Hf6 H6 S6 E6 R6 k6 => ?_
    have B6 : Bh K Hf5 H5 ρ5 σ4 Hf6 H6 ρ6 := ⟨S6, E6, k6⟩
    obtain ⟨Hf7, B7, d7⟩ := B6.frz E5 R6 e5
    obtain ⟨f1, f2, f3, ⟨us, f4, f6⟩, f5, _⟩ := fin (B5.trans B7)
    have lu : us.length = done.length := dps_len f6
    have st := Step.at (o := .lst (us ++ [y])) f2.ff f5
    rw [List.length_append, List.length_singleton] at hz
    refine ⟨us, f4, by rw [← line_eq, lu]; omega, hN Hf7 _ ⟨⟨us ++ [y], upd_same, dps_app f6 (.cons d7 .nil)⟩, by rw [List.length_append, List.length_singleton]; exact hz, f5, f1.trans st fun p hp => by rw [hp]; exact hOD, f2.step st fun p hp z => ?_, f3⟩⟩
    rw [z] at hp
    exact nD1 (own_wipe f3 hp)
theorem wipeE_get? (ρ : Env) (vs : List Nat) (j : Nat) : (Py.wipe ρ vs)[j]? = if j ∈ vs ∧ j < ρ.length then some none else ρ[j]? := by
  induction vs with
  | nil => simp [Py.wipe]
  | cons v vs ih =>
    unfold Py.wipe
    by_cases h : v = j
    · subst h
      by_cases hl : v < ρ.length
      · rw [List.getElem?_set_self (by rw [wipe_len]; exact hl)]; simp [hl]
      · rw [List.getElem?_eq_none (by rw [List.length_set, wipe_len]; omega)]; simp [hl]
    · rw [List.getElem?_set_ne h, ih]
      simp [Ne.symm h]
/-- the inner clause -/
theorem lc_inner {g : TG} {mg : MG} {tt : TT} {te : TE} {t : MT} {e : M} {vs : List Nat} {D : Addr} {done ys : List PV} {xs : List PV} {J : It} {ρ3 : Env} (hO : ∀ p, Own (Py.wipe ρ1 vs) (L2.wipe σ vs) p → O p) (hOD : O D ∨ H1 D = none) (nD1 : ¬ Own (Py.wipe ρ1 vs) (L2.wipe σ vs) D)
    (hg : SG K g mg) (hv : TgIn g mg vs) (ht : ST K tt t) (he : SE K te e) (len1 : ρ1.length = σ.length) (hz : (done ++ ys).length ≤ line) (L : LcO K O Hf1 H1 ρ1 σ vs D done ρ1 Hf1 H1)
    (w : Walk K J xs O Hf1 H1) (hm : lcF (lcTurn mg vs t e) xs ρ1 = some (ys, ρ3)) {Nx : Hp → Prop} (hN : ∀ Hf3 H3, LcO K O Hf1 H1 ρ1 σ vs D (done ++ ys) ρ3 Hf3 H3 → Nx H3) :
    ∃ W1 : Nat → Nat → Hp → Prop, (∃ m, W1 0 m H1) ∧ ∀ j k H, W1 j k H →
      (J.stop j H ∧ Nx H) ∨ (J.go j H ∧ ∃ Nx1 : Hp → Prop, (∀ H', Nx1 H' → ∃ k', k' < k ∧ W1 (j + 1) k' H') ∧ ∀ x H', J.yld j H x H' → g x (L2.wipe σ vs) H' fun σ3 H5 => L2.wipe σ3 vs = L2.wipe σ vs ∧ tt σ3 H5 fun b H6 =>
        if b = true then te σ3 H6 fun y H7 => ∃ acc, H7 D = some (.lst acc) ∧ acc.length < sizeLine ∧ Nx1 (upd H7 D (.lst (acc ++ [y]))) else Nx1 H6) := by
  refine ⟨fun j k H2 => k = xs.length - j ∧ j ≤ xs.length ∧ ∃ ρ2 Hf2 mid rest, lcF (lcTurn mg vs t e) (xs.drop j) ρ2 = some (rest, ρ3) ∧ ys = mid ++ rest ∧ LcO K O Hf1 H1 ρ1 σ vs D (done ++ mid) ρ2 Hf2 H2,
    ⟨_, rfl, Nat.zero_le _, ρ1, Hf1, [], ys, hm, rfl, by rw [List.append_nil]; exact L⟩, ?_⟩
  rintro j k H2 ⟨rfl, hj', ρ2, Hf2, mid, rest, h1, rfl, L2⟩
  obtain ⟨w1, w2⟩ := w Hf2 H2 L2.st j
  cases hd : xs.drop j with
  | nil =>
    rw [hd] at h1
    cases h1
    have hle : xs.length ≤ j := by
      have := congrArg List.length hd
      rw [List.length_drop, List.length_nil] at this
      omega
    rw [List.append_nil] at hN
    exact .inl ⟨w2 hle, hN _ _ L2⟩
  | cons x xr =>
    rw [hd] at h1
    obtain ⟨hx, hr⟩ := drop_get hd
    have hlt : j < xs.length := (List.getElem?_eq_some_iff.mp hx).1
    obtain ⟨go, yl⟩ := w1 x hx
    obtain ⟨zs, ρ4, rs, t1, t2, t3⟩ := lcF_some h1
    have t3' : rest = zs ++ rs := t3
    subst t3'
    refine .inr ⟨go, fun H' => ∃ Hf3, LcO K O Hf1 H1 ρ1 σ vs D (done ++ (mid ++ zs)) ρ4 Hf3 H', fun H' ⟨Hf3, L3⟩ => ⟨_, by omega, rfl, hlt, ρ4, Hf3, mid ++ zs, rs, by rw [hr]; exact t2, by rw [List.append_assoc], L3⟩, fun u H3 hy => ?_⟩
    obtain ⟨rfl, du⟩ := yl u H3 hy
    exact lc_turnO hO hOD nD1 hg hv ht he len1 (by simp only [List.length_append] at hz ⊢; omega) L2 du t1 fun Hf3 H4 L3 => ⟨Hf3, by rw [← List.append_assoc]; exact L3⟩
theorem se_lc2 {wi : TI} {g : TG} {tt : TT} {wi1 : TI} {g1 : TG} {tt1 : TT} {te : TE} {it it1 : MI} {mg mg1 : MG} {t t1 : MT} {e : M} (vs vs1 : List Nat) (hvs : ∀ i ∈ vs1, i ∈ vs) (hi : SI K wi it) (hg : SG K g mg) (hv : TgIn g mg vs) (ht : ST K tt t)
    (hi1 : SI2 K wi1 it1) (hg1 : SG K g1 mg1) (hv1 : TgIn g1 mg1 vs1) (ht1 : ST K tt1 t1) (he : SE K te e) : SE K (tLc2 wi g tt wi1 g1 tt1 te vs vs1) (mLc2 it mg vs t it1 mg1 vs1 t1 e) := by
  intro ρ r ρ' σ Hf H hm E Q q
  simp only [mLc2, Option.bind_eq_some_iff] at hm
  obtain ⟨⟨xs, ρ1⟩, e1, e2⟩ := hm
  split at e2
  case isFalse => cases e2
  rename_i hz
  simp only [Option.bind_eq_some_iff] at e2
  obtain ⟨⟨total, ρe⟩, e3, e4⟩ := e2
  split at e4
  case isFalse => cases e4
  rename_i hz2
  cases e4
  dsimp only at hz2
  refine hi ρ xs ρ1 σ Hf H e1 E _ fun J Hf1 H1 B1 w => ?_
  intro D hD
  have fD : Hf1 D = none := by
    cases z : Hf1 D with
    | none => rfl
    | some o => have := B1.en.ff D o z; rw [hD] at this; cases this
  have st0 := Step.at (o := .lst []) B1.en.ff fD
  have wsub : ∀ p, Own (Py.wipe ρ1 vs) (L2.wipe σ vs) p → Own ρ1 σ p := fun p ⟨j, a, b⟩ => by
    rw [get_wipe] at a
    rw [slot_wipe] at b
    by_cases hj : j ∈ vs
    · rw [if_pos hj] at a; cases a
    · rw [if_neg hj] at a b; exact ⟨j, a, b⟩
  have nD1 : ¬ Own (Py.wipe ρ1 vs) (L2.wipe σ vs) D := fun h => by
    obtain ⟨⟨o, ho⟩, _⟩ := B1.en.there (wsub D h)
    rw [hD] at ho; cases ho
  refine ⟨fun i m H2 => m = xs.length - i ∧ i ≤ xs.length ∧ ∃ ρ2 Hf2 done rest, lcF (lcTurn2 mg vs t it1 mg1 vs1 t1 e) (xs.drop i) ρ2 = some (rest, ρe) ∧ total = done ++ rest ∧ LcO K (Own (Py.wipe ρ1 vs) (L2.wipe σ vs)) Hf1 H1 ρ1 σ vs D done ρ2 Hf2 H2,
    ⟨_, rfl, Nat.zero_le _, ρ1, Hf1, [], total, e3, rfl, ⟨⟨[], upd_same, .nil⟩, Nat.zero_le _, fD, st0.weak fun p hp => .inr (by rw [hp]; exact hD), ?_, rfl, fun j _ => ⟨id, rfl⟩⟩⟩, ?_⟩
  · refine (B1.en.wipe vs).step st0 fun p hp z => ?_
    obtain ⟨⟨o, ho⟩, _⟩ := B1.en.there (wsub p hp)
    rw [z, hD] at ho; cases ho
  · rintro i m H2 ⟨rfl, hi', ρ2, Hf2, done, rest, h1, rfl, L⟩
    obtain ⟨w1, w2⟩ := w Hf2 H2 (L.st.weak fun p hp => .inl (wsub p hp)) i
    cases hd : xs.drop i with
    | nil =>
      rw [hd] at h1
      cases h1
      have hle : xs.length ≤ i := by
        have := congrArg List.length hd
        rw [List.length_drop, List.length_nil] at this
        omega
      refine .inl ⟨w2 hle, ?_⟩
      obtain ⟨Be, Re⟩ := lc_end B1.en hD (⟨L.acc, L.few, L.fd, L.st, L.en, L.nm⟩ : LcS K Hf1 H1 ρ1 σ vs D line done _ Hf2 H2)
      rw [List.append_nil] at q
      have B := B1.trans Be
      exact q _ Hf2 H2 B.st B.en (Re.back fun p hp => B1.fresh hp) B.kp
    | cons x xr =>
      rw [hd] at h1
      obtain ⟨hx, hr⟩ := drop_get hd
      have hlt : i < xs.length := (List.getElem?_eq_some_iff.mp hx).1
      obtain ⟨go, yl⟩ := w1 x hx
      obtain ⟨ys, ρ3, zs, u1, u2, u3⟩ := lcF_some h1
      have u3' : rest = ys ++ zs := u3
      subst u3'
      refine .inr ⟨go, fun H' => ∃ Hf3, LcO K (Own (Py.wipe ρ1 vs) (L2.wipe σ vs)) Hf1 H1 ρ1 σ vs D (done ++ ys) ρ3 Hf3 H', fun H' ⟨Hf3, L3⟩ => ⟨_, by omega, rfl, hlt, ρ3, Hf3, done ++ ys, zs, by rw [hr]; exact u2, by rw [List.append_assoc], L3⟩, fun u H3 hy => ?_⟩
      obtain ⟨rfl, du⟩ := yl u H3 hy
      have hlen : (done ++ ys).length ≤ line := by simp only [List.length_append] at hz2 ⊢; omega
      simp only [lcTurn2, Option.bind_eq_some_iff] at u1
      obtain ⟨ρ4, a1, ⟨b, ρ5⟩, a2, a3⟩ := u1
      refine lc_tg (fun p h => h) nD1 hg hv B1.en.len L du a1 fun σ4 Hf4 w4 E4 fin => ?_
      refine ht ρ4 b ρ5 σ4 Hf4 H3 a2 E4 _ fun Hf5 H5 S5 E5 k5 => ?_
      have B5 : Bh K Hf4 H3 ρ4 σ4 Hf5 H5 ρ5 := ⟨S5, E5, k5⟩
      cases b with
      | false =>
        simp only [Bool.false_eq_true, if_false] at a3 ⊢
        cases a3
        obtain ⟨f1, f2, f3, f4, f5, f6⟩ := fin B5
        exact ⟨Hf5, by rw [List.append_nil]; exact ⟨f4, L.few, f5, f1, f2, f3⟩⟩
      | true =>
        simp only [if_true, Option.bind_eq_some_iff] at a3 ⊢
        obtain ⟨⟨xs1, ρ6⟩, a4, a5⟩ := a3
        split at a5
        case isFalse => cases a5
        obtain ⟨_, _, _, ⟨us5, f45, _⟩, _, _⟩ := fin B5
        refine hi1 ρ5 xs1 ρ6 σ4 Hf5 H5 a4 E5 _ fun J1 Hf6 H6 B6 wk => ?_
        obtain ⟨f1, f2, f3, f4, f5, f6, own6⟩ := fin (B5.trans B6)
        have wsub1 : ∀ p, Own (Py.wipe ρ6 vs1) (L2.wipe σ4 vs1) p → Own ρ6 σ4 p := fun p ⟨j, a, b⟩ => by
          rw [get_wipe] at a
          rw [slot_wipe] at b
          by_cases hj : j ∈ vs1
          · rw [if_pos hj] at a; cases a
          · rw [if_neg hj] at a b; exact ⟨j, a, b⟩
        have nD6 : ¬ Own (Py.wipe ρ6 vs1) (L2.wipe σ4 vs1) D := fun h => f6 (wsub1 D h)
        refine lc_inner (O := fun p => Own (Py.wipe ρ6 vs1) (L2.wipe σ4 vs1) p ∨ p = D) (fun p h => .inl h) (.inl (.inr rfl)) nD6 hg1 hv1 ht1 he B6.en.len hlen ⟨f4, L.few, f5, .refl B6.en.ff, B6.en.wipe vs1, rfl, fun j _ => ⟨id, rfl⟩⟩ (wk _ ?_) a5 fun Hf7 H7 L7 => ?_
        · rintro p (h | rfl)
          · exact B6.no E5 p (wsub1 p h)
          · rw [f45]; exact fun z => nomatch z
        · refine ⟨Hf7, ⟨L7.acc, L7.few, L7.fd, ?_, ?_, ?_⟩⟩
          · refine f1.trans L7.st fun p hp => ?_
            rcases hp with hp | rfl
            · exact own6 p (wsub1 p hp)
            · exact .inr hD
          · have h1 := L7.en.wipe vs
            have h2 : Py.wipe (Py.wipe ρ3 vs1) vs = Py.wipe ρ3 vs := by
              apply List.ext_getElem?
              intro j
              rw [wipeE_get?, wipeE_get?, wipe_len, wipeE_get?]
              by_cases hj : j ∈ vs ∧ j < ρ3.length
              · simp [hj]
              · rw [if_neg hj, if_neg hj, if_neg fun z => hj ⟨hvs j z.1, z.2⟩]
            have h3 : L2.wipe (L2.wipe σ4 vs1) vs = L2.wipe σ vs := by
              rw [← w4]
              apply List.ext_getElem?
              intro j
              rw [wipe_get?, wipe_get?, wipe_length, wipe_get?]
              by_cases hj : j ∈ vs ∧ j < σ4.length
              · simp [hj]
              · rw [if_neg hj, if_neg hj, if_neg fun z => hj ⟨hvs j z.1, z.2⟩]
            rw [h2, h3] at h1
            exact h1
          · refine ⟨L7.nm.1.trans f3.1, fun j hj => ?_⟩
            have n1 := L7.nm.2 j fun z => hj (hvs j z)
            have n2 := f3.2 j hj
            exact ⟨fun h => n2.1 (n1.1 h), n1.2.trans n2.2⟩
def rI2 (K : PySem.W.Frag) (m : MI) : TI := fun σ H R => ∃ (ρ : Env) (xs : List PV) (ρ' : Env) (Hf : Hp), m ρ = some (xs, ρ') ∧ RepE K Hf H ρ σ ∧ ∀ J Hf' H', Bh K Hf H ρ σ Hf' H' ρ' → (∀ O : Addr → Prop, (∀ p, O p → H p ≠ none) → Walk K J xs O Hf' H') → R J H'
theorem si_rI2 {m : MI} : SI2 K (rI2 K m) m := fun ρ xs ρ' σ Hf H hm E R q => ⟨ρ, xs, ρ', Hf, hm, E, q⟩
theorem BI2.can {X : Cx} {tg e : Expr} {m : MI} (h : BI2 X tg e m) : PI X tg e (rI2 X.K m) := by
  obtain ⟨te, h1, h2⟩ := h
  exact ⟨fun pins s σ H R I ⟨ρ, xs, ρ', Hf, hm, E, q⟩ => h1.run pins s σ H R I (h2 ρ xs ρ' σ Hf H hm E R q)⟩
theorem bi2_seq {tg e : Expr} {m : M} (h : BE X e m) : BI2 X tg e (iSeq m) := let ⟨t, a1, a2⟩ := h; ⟨_, pi_sq a1, si2_seq a2⟩
end
section
variable {X : Cx} {elt iter iter1 : Expr} {ifs ifs1 : List Expr} {scope : Scope} {pos : Pos} {mi mi1 : MI} {mt mt1 : MT} {me : M} {x x1 y : Str} {p p1 : Pos}
/-- [elt for x in iter if .. for x1 in iter1 if ..] -/
theorem be_lc2N (i i1 : Nat) (own : List (Str × Nat)) (hc : X.calm = true) (hN : X.N.Nodup) (hi : BI X (.Name x p) iter mi) (ok : blkC X.N X.env.scope scope own = true) (hm : i ∈ own.map (·.2) ∧ i1 ∈ own.map (·.2))
    (hg : ∀ (s : Shared) (H : Hp) (C : Addr) (cl : List (Str × Addr)) (fp : List Addr), PG (X.blk s H scope (compEnvC scope cl C X.env) fp) (.Name x p) (L2.gName i))
    (ht : ∀ (s : Shared) (H : Hp) (C : Addr) (cl : List (Str × Addr)) (fp : List Addr), BTs (X.blk s H scope (compEnvC scope cl C X.env) fp) ifs mt)
    (hi1 : ∀ (s : Shared) (H : Hp) (C : Addr) (cl : List (Str × Addr)) (fp : List Addr), BI2 (X.blk s H scope (compEnvC scope cl C X.env) fp) (.Name x1 p1) iter1 mi1)
    (hg1 : ∀ (s : Shared) (H : Hp) (C : Addr) (cl : List (Str × Addr)) (fp : List Addr), PG (X.blk s H scope (compEnvC scope cl C X.env) fp) (.Name x1 p1) (L2.gName i1))
    (ht1 : ∀ (s : Shared) (H : Hp) (C : Addr) (cl : List (Str × Addr)) (fp : List Addr), BTs (X.blk s H scope (compEnvC scope cl C X.env) fp) ifs1 mt1)
    (he : ∀ (s : Shared) (H : Hp) (C : Addr) (cl : List (Str × Addr)) (fp : List Addr), BE (X.blk s H scope (compEnvC scope cl C X.env) fp) elt me)
    (hs : ∀ x, foldedSetIterable iter X.env x = pure x := by intro _; rfl) (hs1 : ∀ env x, foldedSetIterable iter1 env x = pure x := by intro _ _; rfl) :
    BE X (.ListComp elt [⟨.Name x p, iter, ifs, 0⟩, ⟨.Name x1 p1, iter1, ifs1, 0⟩] scope pos) (mLc2 mi (Py.gName i) (own.map (·.2)) mt mi1 (Py.gName i1) [i1] mt1 me) := by
  obtain ⟨wi, h1, h2⟩ := hi
  have hv1 : ∀ j ∈ [i1], j ∈ own.map (·.2) := fun j hj => by rw [List.mem_singleton.mp hj]; exact hm.2
  exact ⟨_, pe_lc2 hc hN h1 (blkOk_by ok) hv1 hg (fun s H C cl fp => (ht s H C cl fp).can) (fun s H C cl fp => (hi1 s H C cl fp).can) hg1 (fun s H C cl fp => (ht1 s H C cl fp).can) (fun s H C cl fp => (he s H C cl fp).can) hs hs1,
    se_lc2 _ _ hv1 h2 (sg_name i) (tgIn_name hm.1) st_rT si_rI2 (sg_name i1) (tgIn_name (List.mem_singleton.mpr rfl)) st_rT se_rE⟩
end
end Py
/-! PyI0: more of dicts. -/
namespace Py
open PySem
/-- {k: v} of ints -/
def mDctC (kvs : List (Int × Int)) : M := fun ρ => some (.new (.dct (kvs.map fun p => (.inl p.1, .int p.2))), ρ)
def isDct : Ct → Bool
  | .ob (.dct _) => true
  | _ => false
/-- d.get(k, v) -/
def mDgetD (d k v : M) : M := fun ρ => (d ρ).bind fun x => (look x.1 x.2).bind fun c0 => if isDct c0 = true then (k x.2).bind fun y => (look y.1 y.2).bind fun ck => (keyC ck).bind fun key => (v y.2).bind fun z => (look x.1 z.2).bind fun c => match c, z.1 with
  | .ob (.dct kvs), .val w => some (.val ((dGet kvs key).getD w), z.2)
  | _, _ => none
  else none
def keyPV : Key → PV
  | .inl i => .int i
  | .inr s => .str s
/-- the keys of a locked dict -/
def iKeysL (i : Nat) : MI := fun ρ => match get ρ i with
  | some (.lck kvs) => some (kvs.map fun kv => keyPV kv.1, ρ)
  | _ => none
def lockE (ρ : Env) (i : Nat) : Option Env := match get ρ i with
  | some (.own (.dct kvs)) => some (ρ.set i (some (.lck kvs)))
  | some (.ref (.dct kvs)) => some (ρ.set i (some (.lck kvs)))
  | _ => none
/-- as it was ahead: a name's own, or a caller's -/
def unlockE (ρ0 : Env) (ρ : Env) (i : Nat) : Option Env := match get ρ i, get ρ0 i with
  | some (.lck kvs), some (.own _) => some (ρ.set i (some (.own (.dct kvs))))
  | some (.lck kvs), some (.ref _) => some (ρ.set i (some (.ref (.dct kvs))))
  | _, _ => none
/-- s runs while the dict of a name is not changed -/
def sLock (i : Nat) (s : SM) : SM := fun ρ => (lockE ρ i).bind fun ρ1 => (s ρ1).bind fun y => (unlockE ρ y.2 i).map fun ρ2 => (y.1, ρ2)
def intK : Key → Option Int
  | .inl i => some i
  | _ => none
/-- sorted(d), ints -/
def fSortedD : Ct → Option R
  | .ob (.dct kvs) => (kvs.mapM fun kv => intK kv.1).map fun ns => .new (.lst ((isort ns).map .int))
  | _ => none
/-- a = b, a dict that b does not hold behind it -/
def sMove (i j : Nat) : SM := fun ρ => match get ρ j with
  | some (.own (.dct kvs)) => (put i (some (.own (.dct kvs))) (ρ.set j none)).map fun ρ' => (.nx, ρ')
  | _ => none
def newOb : R → Option Ob
  | .new o => some o
  | _ => none
def fCountI : Ct → Ct → Option R
  | c, .pv (.int k) => c.lst?.bind fun xs => (ints? xs).map fun ns => .val (.int (ns.count k : Nat))
  | _, _ => none
/-- xs.count(e) -/
def mCount (a b : M) : M := fun ρ => (a ρ).bind fun x => (look x.1 x.2).bind fun c0 => c0.lst?.bind fun _ => (b x.2).bind fun y => (look x.1 y.2).bind fun cx => (look y.1 y.2).bind fun cy => (fCountI cx cy).map fun z => (z, y.2)
/-- a, b = two new objects -/
def sParN (i j : Nat) (a b : M) : SM := fun ρ => (a ρ).bind fun x => (newOb x.1).bind fun o => (b x.2).bind fun y => (newOb y.1).bind fun o2 =>
  (put i (some (.own o)) y.2).bind fun ρ1 => (put j (some (.own o2)) ρ1).map fun ρ2 => (.nx, ρ2)
/-- dict(xs) of a list of pairs -/
def pairK? : PV → Option (Key × PV)
  | .tuple [k, v] => (keyOf k).map fun key => (key, v)
  | _ => none
def dMerge (kvs more : List (Key × PV)) : List (Key × PV) := more.foldl (fun acc kv => dPut acc kv.1 kv.2) kvs
def fDictL (c : Ct) : Option R := c.lst?.bind fun xs => (xs.mapM pairK?).map fun kvs => .new (.dct (dMerge [] kvs))
end Py
/-! PyI: more of dicts. -/
namespace Py
open PySem PySem.Spec PyProof.Rows L2
def del (H : Hp) (p : Addr) : Hp := fun a => if a = p then none else H a
theorem del_ne {H : Hp} {a p : Addr} (h : a ≠ p) : del H p a = H a := if_neg h
section
variable {K : PySem.W.Frag} {H : Hp} {p : Addr} {od : Obj} {ws : List (Key × V)}
theorem del_l (h : H p = some (.frz od (.dK ws))) {a : Addr} {xs : List V} (s : SqL K H a xs) : SqL K (del H p) a xs := by
  rcases s with s | s
  · left
    have ne : a ≠ p := by
      rintro rfl
      rcases s with s | ⟨o, s⟩
      · rw [h] at s; cases s
      · rw [h] at s; cases s
    rcases s with s | ⟨o, s⟩
    · exact .inl (by rw [del_ne ne]; exact s)
    · exact .inr ⟨o, by rw [del_ne ne]; exact s⟩
  · exact .inr s
theorem del_t (h : H p = some (.frz od (.dK ws))) {a : Addr} {xs : List V} (s : SqT K H a xs) : SqT K (del H p) a xs := by
  rcases s with s | s
  · left
    have ne : a ≠ p := by
      rintro rfl
      rcases s with s | ⟨o, s⟩
      · rw [h] at s; cases s
      · rw [h] at s; cases s
    rcases s with s | ⟨o, s⟩
    · exact .inl (by rw [del_ne ne]; exact s)
    · exact .inr ⟨o, by rw [del_ne ne]; exact s⟩
  · exact .inr s
mutual
theorem dp_del (e : H p = some (.frz od (.dK ws))) : ∀ (d : PyData) (v : V), Dp K H v d → Dp K (del H p) v d
  | .none, _, h => by cases h; exact .non
  | .bool b, _, h => by cases h; exact .bl b
  | .int i, _, h => by cases h; exact .int i
  | .str x, _, h => by cases h; exact .str x
  | .list ds, _, h => by
    cases h with
    | lst hs ha => exact .lst (del_l e hs) (dps_del e ds _ ha)
  | .tuple ds, _, h => by
    cases h with
    | tup hs ha => exact .tup (del_t e hs) (dps_del e ds _ ha)
  | .dict _, _, h => by cases h
theorem dps_del (e : H p = some (.frz od (.dK ws))) : ∀ (ds : List PyData) (vs : List V), DpAll K H vs ds → DpAll K (del H p) vs ds
  | [], _, h => by cases h; exact .nil
  | d :: ds, _, h => by
    cases h with
    | cons h1 h2 => exact .cons (dp_del e d _ h1) (dps_del e ds _ h2)
end
end
section
variable {K : PySem.W.Frag} {Hf H Hf' H' Hf1 H1 Hf2 H2 H0 : Hp} {ρ ρ' ρ1 ρ2 : Env} {σ σ' σ1 σ2 : L2.St} {O O' O1 : Addr → Prop} {X : Cx}
theorem ob_at_set {i : Nat} {s : Sl} {t : Option Sl} (g : get ρ i = some s) (j : Nat) : get (ρ.set i t) j = if i = j then t else get ρ j := by
  rw [get_set]
  have hl := get_lt g
  by_cases h : i = j
  · subst h; rw [if_pos ⟨rfl, hl⟩, if_pos rfl]
  · rw [if_neg fun z => h z.1, if_neg h]
end
end Py
/-! PyJ: more of dicts, in the text. -/
namespace L2
open PySem PySem.Spec PyProof.Rows
section
variable {X : Cx}
end
end L2
namespace Py
open PySem PySem.Spec PyProof.Rows L2
section
variable {K : PySem.W.Frag} {Hf H Hf' H' Hf1 H1 Hf2 H2 H0 : Hp} {ρ ρ' ρ1 ρ2 : Env} {σ σ' σ1 σ2 : L2.St} {O O' O1 : Addr → Prop} {X : Cx}
theorem newD (e : Ex Hf H) {ws : List (Key × V)} {kvs : List (Key × PV)} (d : KvAll K Hf ws kvs) {Q : VK} (q : ∀ u Hf' H', Step Nobody Hf H Hf' H' → RepR K Hf' H' H [] (.new (.dct kvs)) u → Q u H') : ∀ p, H p = none → Q (.ref p) (upd H p (.dK ws)) := fun p hp => by
  obtain ⟨S, fp⟩ := new_ob (o := .dK ws) e hp
  exact q _ _ _ S ⟨p, rfl, hp, fp, ws, upd_same, d⟩
/-- dict(xs) of pairs -/
theorem kvs_merge {ms : List (Key × V)} {more : List (Key × PV)} (h : KvAll K Hf ms more) : ∀ {ws : List (Key × V)} {kvs : List (Key × PV)}, KvAll K Hf ws kvs → KvAll K Hf (mergeK ws ms) (dMerge kvs more) := by
  induction h with
  | nil => exact fun h => h
  | cons r t ih => exact fun h => ih (kvs_put _ h r)
theorem pairs_ok (e : Ex Hf H) : ∀ {us : List V} {xs : List PV} {kvs : List (Key × PV)}, DpAll K Hf us xs → xs.mapM pairK? = some kvs → ∃ (ps : List Addr) (ws : List (Key × V)), us = ps.map V.ref ∧ Paired (fun p kv => SqT K H p [kV kv.1, kv.2]) ps ws ∧ KvAll K Hf ws kvs
  | _, _, _, .nil, h => by cases h; exact ⟨[], [], rfl, .nil, .nil⟩
  | _, _, _, .cons (v := u) (d := x) r t, h => by
    simp only [List.mapM_cons, Option.bind_eq_bind, Option.bind_eq_some_iff] at h
    obtain ⟨kv, h1, ms, h2, h3⟩ := h
    cases h3
    obtain ⟨ps, ws, rfl, hp, hk⟩ := pairs_ok e t h2
    unfold pairK? at h1
    split at h1
    · rename_i k v
      simp only [Option.map_eq_some_iff] at h1
      obtain ⟨key, h4, rfl⟩ := h1
      cases r with
      | tup hs ha =>
        rename_i a us
        cases ha with
        | cons r1 ha =>
          cases ha with
          | cons r2 ha =>
            cases ha
            have ek := keyOf_ok h4 r1
            subst ek
            exact ⟨_ :: ps, (key, _) :: ws, rfl, .cons (ex_t e hs) hp, .cons r2 hk⟩
    · cases h1
theorem c_dictL (hc : X.calm = true) : C1 X (.type "dict") fDictL := ⟨_, call_dictP hc, fun Hf H c x z e hcc e5 Q q => by
  simp only [fDictL, Option.bind_eq_some_iff, Option.map_eq_some_iff] at e5
  obtain ⟨xs, h1, kvs, h2, rfl⟩ := e5
  obtain ⟨a, us, rfl, hs, d⟩ := lst_ok e hcc h1
  obtain ⟨ps, ws, rfl, hp, hk⟩ := pairs_ok e d h2
  exact ⟨a, ps, ws, rfl, hs, hp, newD e (kvs_merge hk .nil) q⟩⟩
end
section
variable {X : Cx} {a b e f : Expr} {ma mb me mf : M} {x y : Str} {p p' apos pos pos' : Pos} {st : Stmt} {m : SM}
end
section
variable {X : Cx} {x y : Str} {p p' pos : Pos}
end
theorem bt_dict : bootBuiltins "dict" = some (.type "dict") := by decide +kernel
end Py
/-! PyKp: sorted(set(a)), pure. -/
namespace Py
open PySem
/-- each one once -/
def nub : List Int → List Int
  | [] => []
  | x :: xs => if x ∈ xs then nub xs else x :: nub xs
def sset (ns : List Int) : List Int := isort (nub ns)
def seqV? : Ct → Option (List PV)
  | .pv (.tuple xs) => some xs
  | c => c.lst?
def fSSet (c : Ct) : Option R := (seqV? c).bind fun xs => (ints? xs).bind fun ns => if ns.length ≤ 4000 then some (.new (.lst ((sset ns).map .int))) else none
end Py
namespace L2
open PySem PySem.Spec PyProof.Rows
section
variable {P : Program} {w : World} {A : Around} {E : Value → Shared → Prop} {s : Shared}
set_option maxRecDepth 100000 in
set_option maxHeartbeats 3200000 in
end
end L2
namespace L2
open PySem PySem.Spec PyProof.Rows
section
variable {X : Cx}
/-- sorted(set(a)), a list or a tuple of ints -/
def tSSetI (K : PySem.W.Frag) (ta : TE) : TE := fun σ H Q => ta σ H fun x H1 => ∃ (l : Addr) (ns : List Int), x = V.ref l ∧ (SqL K H1 l (ns.map V.int) ∨ SqT K H1 l (ns.map V.int)) ∧ ns.length ≤ 4000 ∧
  ∀ (ys : List Int) (p : Addr), ys.Pairwise (· < ·) → (∀ k, k ∈ ys ↔ k ∈ ns) → H1 p = none → Q (.ref p) (upd H1 p (.lst (ys.map V.int)))
end
end L2
/-! PyK: sorted(set(a)). -/
namespace Py
open PySem PySem.Spec PyProof.Rows L2
section
variable {K : PySem.W.Frag} {Hf H : Hp} {X : Cx} {a : Expr} {ma : M} {p p2 q pos : Pos}
def rSSet (K : PySem.W.Frag) (x : V) (H1 : Hp) (Q : VK) : Prop := ∃ (l : Addr) (ns : List Int), x = V.ref l ∧ (SqL K H1 l (ns.map V.int) ∨ SqT K H1 l (ns.map V.int)) ∧ ns.length ≤ 4000 ∧
  ∀ (ys : List Int) (p : Addr), ys.Pairwise (· < ·) → (∀ k, k ∈ ys ↔ k ∈ ns) → H1 p = none → Q (.ref p) (upd H1 p (.lst (ys.map V.int)))
end
end Py
/-! PyL0: a comprehension over a name's own list, or a lent one, which the body does not see. -/
namespace Py
open PySem
def mLcH (k : Nat) (g : MG) (vs : List Nat) (t : MT) (e : M) : M := fun ρ => (lstAt ρ k).bind fun xs =>
  (mLc (iSeq (mC (.list xs))) g vs t e (ρ.set k none)).map fun y => (y.1, y.2.set k (get ρ k))
end Py
/-! PyL: a comprehension over a name's own list, or a lent one. -/
namespace Py
open PySem PySem.Spec PyProof.Rows L2
section
variable {K : PySem.W.Frag} {Hf H : Hp} {ρ : Env} {σ : L2.St}
/-- at one place: the list is walked as the rules say -/
theorem lc_at {wi : TI} {g : TG} {tt : TT} {te : TE} {mg : MG} {t : MT} {e : M} {vs : List Nat} {xs total : List PV} {ρe : Env} (E : RepE K Hf H ρ σ) (hw : ∀ R : It → Hp → Prop, (∀ J, Walk K J xs (Own ρ σ) Hf H → R J H) → wi σ H R) (hz : xs.length ≤ line)
    (e3 : lcF (lcTurn mg vs t e) xs ρ = some (total, ρe)) (hg : SG K g mg) (hv : TgIn g mg vs) (ht : ST K tt t) (he : SE K te e) (Q : VK) (q : ∀ u Hf' H', Bh K Hf H ρ σ Hf' H' (back ρ vs ρe) → RepR K Hf' H' H σ (.new (.lst total)) u → Q u H') : tLc wi g tt te vs σ H Q := by
  refine hw _ fun J w => ?_
  intro D hD
  have fD : Hf D = none := by
    cases z : Hf D with
    | none => rfl
    | some o => have := E.ff D o z; rw [hD] at this; cases this
  have st0 := Step.at (o := .lst []) E.ff fD
  have wsub : ∀ p, Own (Py.wipe ρ vs) (L2.wipe σ vs) p → Own ρ σ p := fun p ⟨j, a, b⟩ => by
    rw [get_wipe] at a
    rw [slot_wipe] at b
    by_cases hj : j ∈ vs
    · rw [if_pos hj] at a; cases a
    · rw [if_neg hj] at a b; exact ⟨j, a, b⟩
  refine ⟨fun i m H2 => m = xs.length - i ∧ i ≤ xs.length ∧ ∃ ρ2 Hf2 done rest, lcF (lcTurn mg vs t e) (xs.drop i) ρ2 = some (rest, ρe) ∧ total = done ++ rest ∧ LcS K Hf H ρ σ vs D i done ρ2 Hf2 H2,
    ⟨_, rfl, Nat.zero_le _, ρ, Hf, [], total, e3, rfl, ⟨⟨[], upd_same, .nil⟩, Nat.le_refl _, fD, st0.weak fun p hp => .inr (by rw [hp]; exact hD), ?_, rfl, fun j _ => ⟨id, rfl⟩⟩⟩, ?_⟩
  · refine (E.wipe vs).step st0 fun p hp z => ?_
    obtain ⟨⟨o, ho⟩, _⟩ := E.there (wsub p hp)
    rw [z, hD] at ho; cases ho
  · rintro i m H2 ⟨rfl, hi', ρ2, Hf2, done, rest, h1, rfl, L⟩
    obtain ⟨w1, w2⟩ := w Hf2 H2 (L.st.weak fun p hp => .inl (wsub p hp)) i
    cases hd : xs.drop i with
    | nil =>
      rw [hd] at h1
      cases h1
      have hle : xs.length ≤ i := by
        have := congrArg List.length hd
        rw [List.length_drop, List.length_nil] at this
        omega
      refine .inl ⟨w2 hle, ?_⟩
      obtain ⟨Be, Re⟩ := lc_end E hD L
      rw [List.append_nil] at q
      exact q _ Hf2 H2 Be Re
    | cons x xr =>
      rw [hd] at h1
      obtain ⟨hx, hr⟩ := drop_get hd
      have hlt : i < xs.length := (List.getElem?_eq_some_iff.mp hx).1
      obtain ⟨go, yl⟩ := w1 x hx
      obtain ⟨ys, ρ3, zs, t1, t2, t3⟩ := lcF_some h1
      have t3' : rest = ys ++ zs := t3
      subst t3'
      refine .inr ⟨go, fun H' => ∃ Hf3, LcS K Hf H ρ σ vs D (i + 1) (done ++ ys) ρ3 Hf3 H', fun H' ⟨Hf3, L3⟩ => ⟨_, by omega, rfl, hlt, ρ3, Hf3, done ++ ys, zs, by rw [hr]; exact t2, by rw [List.append_assoc], L3⟩, fun u H3 hy => ?_⟩
      obtain ⟨rfl, du⟩ := yl u H3 hy
      exact lc_turn hg hv ht he hD E (Nat.lt_of_lt_of_le hlt hz) L du t1 fun Hf3 H4 L3 => ⟨Hf3, L3⟩
theorem se_lcH {k : Nat} {g : TG} {tt : TT} {te : TE} {mg : MG} {t : MT} {e : M} (vs : List Nat) (hg : SG K g mg) (hv : TgIn g mg vs) (ht : ST K tt t) (he : SE K te e) : SE K (tLc (iSq K (tVar k)) g tt te vs) (mLcH k mg vs t e) := by
  intro ρ r ρ' σ Hf H hm E Q q
  simp only [mLcH, mLc, iSeq, mC, Option.bind_eq_some_iff, Option.map_eq_some_iff, Prod.mk.injEq] at hm
  obtain ⟨xs, e1, ⟨r1, ρb⟩, ⟨⟨zs, ρz⟩, ⟨⟨rv, ρv⟩, ev, ez⟩, e2⟩, rfl, rfl⟩ := hm
  cases ev
  cases ez
  dsimp only at e2
  split at e2
  case isFalse => cases e2
  rename_i hz
  simp only [Option.map_eq_some_iff, Prod.mk.injEq] at e2
  obtain ⟨⟨total, ρe⟩, e3, rfl, rfl⟩ := e2
  obtain ⟨s, gk, hs⟩ : ∃ s, get ρ k = some s ∧ (s = .own (.lst xs) ∨ s = .ref (.lst xs)) := by
    unfold lstAt obAt at e1
    split at e1
    · rename_i ys hy
      cases e1
      split at hy
      · rename_i o ho
        cases hy
        exact ⟨_, ho, .inl rfl⟩
      · rename_i o ho
        cases hy
        exact ⟨_, ho, .inr rfl⟩
      · cases hy
    · cases e1
  have hob : isOb (some s) = true := by rcases hs with rfl | rfl <;> rfl
  obtain ⟨u, hu, hr⟩ := E.sl k s gk
  obtain ⟨p, rfl, fp, ws, hp, d⟩ : ∃ p, u = .ref p ∧ Hf p = none ∧ ∃ ws, H p = some (.lst ws) ∧ DpAll K Hf ws xs := by
    rcases hs with rfl | rfl <;> exact hr
  have ok : OwnAt ρ σ k p := ⟨by rw [gk]; exact hob, hu⟩
  have sub : ∀ j q, OwnAt (ρ.set k none) σ j q → OwnAt ρ σ j q ∧ k ≠ j := fun j q ⟨a, b⟩ => by
    rw [ob_at_set gk] at a
    by_cases h : k = j
    · rw [if_pos h] at a; cases a
    · rw [if_neg h] at a; exact ⟨⟨a, b⟩, h⟩
  have Eh : RepE K Hf H (ρ.set k none) σ := ⟨by rw [List.length_set]; exact E.len, E.ff, fun j t e => by
    rw [ob_at_set gk] at e
    by_cases h : k = j
    · rw [if_pos h] at e; cases e
    · rw [if_neg h] at e; exact E.sl j t e, fun a b q x y => E.dis a b q (sub a q x).1 (sub b q y).1⟩
  have np : ¬ Own (ρ.set k none) σ p := fun ⟨j, h⟩ => (sub j p h).2 (E.dis k j p ok (sub j p h).1)
  refine lc_at Eh (fun R kk => ⟨_, slot_at hu, p, rfl, .inl ⟨⟨ws, SqL.of hp⟩, kk _ (walk_l (fun Hf2 H2 S => SqL.of (S.keep p _ hp np)) d)⟩⟩) hz e3 hg hv ht he Q fun v Hf2 H2 B R => ?_
  have hp2 : H2 p = some (.lst ws) := B.st.keep p _ hp np
  have fp2 : Hf2 p = none := by rw [B.st.nof p _ hp np]; exact fp
  have hl : k < (back (ρ.set k none) vs ρe).length := by
    rw [B.en.len, ← E.len]
    exact get_lt gk
  have gs : ∀ j, get ((back (ρ.set k none) vs ρe).set k (get ρ k)) j = if k = j then some s else get (back (ρ.set k none) vs ρe) j := fun j => by
    rw [get_set, gk]
    by_cases h : k = j
    · rw [if_pos ⟨h, hl⟩, if_pos h]
    · rw [if_neg fun z => h z.1, if_neg h]
  have gh : ∀ j, k ≠ j → get (ρ.set k none) j = get ρ j := fun j h => by rw [ob_at_set gk, if_neg h]
  have own2 : ∀ j q, OwnAt ((back (ρ.set k none) vs ρe).set k (get ρ k)) σ j q → (k = j ∧ q = p) ∨ (k ≠ j ∧ q ≠ p ∧ OwnAt (back (ρ.set k none) vs ρe) σ j q) := fun j q ⟨a, b⟩ => by
    by_cases h : k = j
    · subst h; rw [hu] at b; cases b; exact .inl ⟨rfl, rfl⟩
    · rw [gs, if_neg h] at a
      refine .inr ⟨h, fun z => ?_, a, b⟩
      subst z
      exact np ⟨j, B.kp.own j a, b⟩
  refine q v Hf2 H2 (B.st.weak fun a ⟨j, h⟩ => .inl ⟨j, (sub j a h).1⟩) ⟨by rw [List.length_set]; exact B.en.len, B.en.ff, fun j t e => ?_, fun a b q x y => ?_⟩ R ⟨fun j h => ?_, fun j => ?_⟩
  · rw [gs] at e
    by_cases h : k = j
    · subst h
      rw [if_pos rfl] at e
      cases e
      have rep : ∃ p', V.ref p = V.ref p' ∧ Hf2 p' = none ∧ RepOb K Hf2 H2 p' (.lst xs) := ⟨p, rfl, fp2, ws, hp2, dps_mono B.st.ff _ _ d⟩
      exact ⟨_, hu, by rcases hs with rfl | rfl <;> exact rep⟩
    · rw [if_neg h] at e
      exact B.en.sl j t e
  · rcases own2 a q x with ⟨rfl, e1⟩ | ⟨n1, m1, o1⟩ <;> rcases own2 b q y with ⟨rfl, e2⟩ | ⟨n2, m2, o2⟩
    · rfl
    · exact absurd e1 m2
    · exact absurd e2 m1
    · exact B.en.dis a b q o1 o2
  · rw [gs] at h
    by_cases c : k = j
    · subst c; rw [gk]; exact hob
    · rw [if_neg c] at h
      have := B.kp.own j h
      rwa [gh j c] at this
  · rw [gs]
    by_cases c : k = j
    · subst c; rw [if_pos rfl, gk]
    · rw [if_neg c, B.kp.ref j, gh j c]
end
section
variable {X : Cx} {elt tg : Expr} {ifs : List Expr} {scope : Scope} {pos : Pos} {mt : MT} {me : M} {x y : Str} {p py : Pos}
/-- [elt for x in y if ..], y a list of the def's own or a lent one -/
theorem be_lcHN (k i : Nat) (own : List (Str × Nat)) (hc : X.calm = true) (hN : X.N.Nodup) (ho : PE X (.Name y py) (tVar k)) (ok : blkC X.N X.env.scope scope own = true) (hm : i ∈ own.map (·.2)) (hx : X.N[i]? = some x)
    (hg : ∀ (s : Shared) (H : Hp) (C : Addr) (cl : List (Str × Addr)) (fp : List Addr), PG (X.blk s H scope (compEnvC scope cl C X.env) fp) (.Name x p) (L2.gName i))
    (ht : ∀ (s : Shared) (H : Hp) (C : Addr) (cl : List (Str × Addr)) (fp : List Addr), BTs (X.blk s H scope (compEnvC scope cl C X.env) fp) ifs mt)
    (he : ∀ (s : Shared) (H : Hp) (C : Addr) (cl : List (Str × Addr)) (fp : List Addr), BE (X.blk s H scope (compEnvC scope cl C X.env) fp) elt me) (hs : ∀ x, foldedSetIterable (.Name y py) X.env x = pure x := by intro _; rfl) :
    BE X (.ListComp elt [⟨.Name x p, .Name y py, ifs, 0⟩] scope pos) (mLcH k (Py.gName i) (own.map (·.2)) mt me) :=
  ⟨_, pe_lc hc hN (pi_sq ho) (blkOk_by ok) hg (fun s H C cl fp => (ht s H C cl fp).can) (fun s H C cl fp => (he s H C cl fp).can) hs, se_lcH _ (sg_name i) (tgIn_name hm) st_rT se_rE⟩
end
end Py
/-! PyM0: a, b, c = a list. -/
namespace Py
open PySem
/-- a, b = t (a list) -/
def gLst (is : List Nat) : MG := fun r ρ => match r with
  | .val (.list xs) => gNames is xs ρ
  | _ => none
end Py
/-! PyM: a, b, c = a list; a, b, c = x, y, z. -/
namespace Py
open PySem PySem.Spec PyProof.Rows L2
section
variable {K : PySem.W.Frag} {Hf H : Hp} {ρ : Env} {σ : L2.St}
end
section
variable {X : Cx}
end
end Py
/-! PyN0: sorted, of pairs of an int and a tuple of ints. -/
namespace Py
open PySem
def pairI? : PV → Option (Int × List Int)
  | .tuple [.int n, .tuple xs] => (ints? xs).map fun ns => (n, ns)
  | _ => none
def pairV (p : Int × List Int) : PV := .tuple [.int p.1, tupV p.2]
def pairLe (p q : Int × List Int) : Bool := !decide (q.1 < p.1 ∨ (q.1 = p.1 ∧ q.2 < p.2))
def fSortedP (c : Ct) : Option R := c.lst?.bind fun xs => (xs.mapM pairI?).map fun ps => .new (.lst ((ps.mergeSort pairLe).map pairV))
/-- tuple(range(n)) -/
def mTupR1 (a : M) : M := fun ρ => (a ρ).bind fun x => (look x.1 x.2).bind fun c => (intOf c).bind fun n => if n ≤ line ∧ -(2 ^ 62) ≤ n then some (.val (.tuple (rangeL 0 n.toNat)), x.2) else none
end Py
/-! PyN: sorted, of pairs of an int and a tuple of ints; xs += ys. -/
namespace Py
open PySem PySem.Spec PyProof.Rows L2
section
end
section
variable {K : PySem.W.Frag} {Hf H : Hp} {X : Cx}
def rSortP (K : PySem.W.Frag) : List V → Hp → VK → Prop := fun vs H Q => ∃ (a : Addr) (xs : List V) (ps : List (Int × List Int)), vs = [V.ref a] ∧ SqL K H a xs ∧ ∃ Hf, Ex Hf H ∧ DpAll K Hf xs (ps.map pairV) ∧
  ∀ (ys : List V) (p : Addr), DpAll K Hf ys ((ps.mergeSort pairLe).map pairV) → H p = none → Q (.ref p) (upd H p (.lst ys))
/-! xs += ys -/
theorem ss_augL {i : Nat} {te : TE} {a : M} (ha : SE K te a) : SS K (tAug i te L2.rExt2) (sAugL i a) := by
  intro ρ fl ρ' σ Hf H hm E D q
  simp only [sAugL, Option.bind_eq_some_iff] at hm
  obtain ⟨zs0, h0, ⟨x, ρ1⟩, e1, e2⟩ := hm
  dsimp only at e2
  split at e2
  · rename_i ys
    simp only [Option.bind_eq_some_iff] at e2
    obtain ⟨xs, e3, e4⟩ := e2
    split at e4
    · rename_i hz
      cases e4
      obtain ⟨p, o1, s1, f1, ⟨vs, hv, dv⟩, _⟩ := obAt_ok E (lstAt_ok E h0)
      refine ⟨.ref p, slot_at s1, ?_⟩
      refine ha ρ _ ρ1 σ Hf H e1 E _ fun u Hf1 H1 S1 E1 R1 k1 => ?_
      have B1 : Bh K Hf H ρ σ Hf1 H1 ρ1 := ⟨S1, E1, k1⟩
      obtain ⟨b, rfl, n1, n2, us, hb, du⟩ := R1
      obtain ⟨p', o2, s2, f2, ⟨ws, hw, dw⟩, hi⟩ := obAt_ok E1 (lstAt_ok E1 e3)
      rw [s1] at s2
      cases s2
      have B3 := mut_ok (o := .lst xs) (o' := .lst (xs ++ ys)) (ho := .lst (ws ++ us)) E1 o2 hi ⟨_, upd_same, dps_app dw du⟩
      have B4 := B1.trans B3
      refine ⟨p, b, ws, us, rfl, rfl, hw, hb, by rw [dps_len dw, dps_len du, ← line_eq]; exact hz, ?_⟩
      have hσ : σ.set i (some (V.ref p)) = σ := by
        have := slot_at s1
        obtain ⟨hlt, heq⟩ := List.getElem?_eq_some_iff.mp this
        rw [← heq]
        exact List.set_getElem_self hlt
      show D.nx (σ.set i (some (V.ref p))) _
      rw [hσ]
      exact q σ _ _ B4.s
    · cases e4
  · cases e2
theorem bs_augL {x : Str} {p' pos : Pos} {a : Expr} {ma : M} (i : Nat) (hN : X.N.Nodup) (ha : BE X a ma) (hi : X.N[i]? = some x := by rfl) (hx : Loc X.env.scope x := by first | exact Or.inl rfl | exact Or.inr rfl)
    (hf : X.fn x = true ∨ X.env.scope.names.lookup x = some .local := by first | exact .inl rfl | exact .inr rfl | assumption) : BS X (.AugAssign (.Name x p') .Add a pos) (sAugL i ma) := by
  obtain ⟨t, a1, a2⟩ := ha
  exact ⟨_, ps_aug hN hi hx a1 (fun pins s σ H x y v u Q I rx ry q => L2.iop_ext pins s σ H x y v u Q I rx ry q) hf, ss_augL a2⟩
theorem se_tupR1 {te : TE} {a : M} (ha : SE K te a) : SE K (L2.tTupRg (tRg1 te)) (mTupR1 a) := by
  intro ρ r ρ' σ Hf H hm E Q q
  simp only [mTupR1, Option.bind_eq_some_iff] at hm
  obtain ⟨⟨x, ρ1⟩, e1, c, e2, n, e3, e4⟩ := hm
  split at e4
  · rename_i hz
    cases e4
    refine ha ρ x ρ1 σ Hf H e1 E _ fun u Hf1 H1 S1 E1 R1 k1 => ?_
    have B1 : Bh K Hf H ρ σ Hf1 H1 ρ1 := ⟨S1, E1, k1⟩
    have hl : (line : Int) = 16777216 := rfl
    refine ⟨n, intOf_some e3 (look_ok E1 R1 e2), ⟨by omega, by omega, by omega, by omega, by omega⟩, fun p hp => ?_⟩
    have dd : DpAll K Hf1 (rgV 0 n) (rangeL 0 n.toNat) := by
      unfold rgV
      rw [Int.sub_zero]
      exact dps_rng 0 n.toNat
    obtain ⟨S, d⟩ := new_tup E1.ff dd hp
    have B2 := B1.more S
    exact q _ _ _ B2.st B2.en d B2.kp
  · cases e4
theorem be_tupR1 {a : Expr} {ma : M} {p p' pos pos' : Pos} (hc : X.calm = true) (hg : Gl X "tuple") (hm : X.mg "tuple" = none) (hg' : Gl X "range") (hm' : X.mg "range" = none) (ha : BE X a ma) (na : starEach [a] X.env = (false, eval a X.env) :: starEach [] X.env := by rfl)
    (na' : starEach [.Call (.Name "range" p') [a] [] pos'] X.env = (false, eval (.Call (.Name "range" p') [a] [] pos') X.env) :: starEach [] X.env := by rfl) : BE X (.Call (.Name "tuple" p) [.Call (.Name "range" p') [a] [] pos'] [] pos) (mTupR1 ma) := by
  obtain ⟨t, a1, a2⟩ := ha
  exact ⟨_, L2.pe_tupRg hc hg hm (prg_1 hg' hm' a1 na) na', se_tupR1 a2⟩
end
end Py
/-! PyO0: a table of rows that are changed in place (meaning). -/
namespace Py
abbrev ES := Env × List (List PV)
def intAt (ρ : Env) (i : Nat) : Option Int := match get ρ i with
  | some (.val (.int z)) => some z
  | _ => none
def set2 (T : List (List PV)) (a b : Int) (v : PV) : Option (List (List PV)) := (ixN T.length a).bind fun i => (T[i]?).bind fun r => (ixN r.length b).map fun j => T.set i (r.set j v)
/-- a name gets a value -/
def ladP (iP : Nat) (m : M) : ES → Option ES := fun s => (m s.1).bind fun y => (frz y.1 y.2).bind fun w => (put iP (some (.val w.1)) w.2).map fun ρ => (ρ, s.2)
/-- table[x][y] = value -/
def ladS (iX iY : Nat) (m : M) : ES → Option ES := fun s => (m s.1).bind fun y => (frz y.1 y.2).bind fun w => (intAt w.2 iX).bind fun a => (intAt w.2 iY).bind fun b => (set2 s.2 a b w.1).map fun T => (w.2, T)
def lop (i : Nat) (body : ES → Option ES) : List PV → ES → Option ES
  | [], s => some s
  | x :: r, s => (put i (some (.val x)) s.1).bind fun ρ => (body (ρ, s.2)).bind (lop i body r)
def ladF (i : Nat) (a : M) (body : ES → Option ES) : ES → Option ES := fun s => (Py.iRng1 a s.1).bind fun xs => lop i body xs.1 (xs.2, s.2)
def ladQ (m n : ES → Option ES) : ES → Option ES := fun s => (m s).bind n
open Classical in
noncomputable def sLad (t iO iN : Nat) (vs : List Nat) (mRow : M) (loops : ES → Option ES) : SM := fun ρ => match get ρ iN with
  | some (.val (.int n)) => if h : 0 ≤ n ∧ n ≤ 100 ∧ get ρ t = none ∧ t < ρ.length ∧ (∀ i ∈ vs, get ρ i = none) ∧ ∃ row, ∀ k : Nat, k < n.toNat → mRow ((wipe ρ vs).set iO (some (.val (.int k)))) = some (.new (.lst row), (wipe ρ vs).set iO (some (.val (.int k)))) then
      (loops (ρ, List.replicate n.toNat h.2.2.2.2.2.choose)).bind fun s => some (.nx, s.1.set t (some (.own (.lst (s.2.map PySem.PyData.list))))) else none
  | _ => none
end Py
/-! PyO: a table of rows that are changed in place. -/
namespace Py
open PySem PySem.Spec PyProof.Rows L2
/-- the table's objects: none of them was there at H0, none is frozen -/
structure TR (K : PySem.W.Frag) (Hf H H0 : Hp) (p0 : Addr) (as : List Addr) (T : List (List PV)) : Prop where
  h0 : H p0 = some (.lst (as.map V.ref))
  f0 : Hf p0 = none
  z0 : H0 p0 = none
  nd : as.Nodup
  ne : p0 ∉ as
  len : as.length = T.length
  row : ∀ i (hi : i < as.length) (hT : i < T.length), H0 as[i] = none ∧ Hf as[i] = none ∧ ∃ vs, H as[i] = some (.lst vs) ∧ DpAll K Hf vs T[i]
structure LI (K : PySem.W.Frag) (Hf H H0 : Hp) (t : Nat) (p0 : Addr) (as : List Addr) (s : ES) (σ : L2.St) : Prop where
  en : RepE K Hf H s.1 σ
  sl : slot σ t = some (.ref p0)
  go : isOb (get s.1 t) = false
  gr : isRef (get s.1 t) = false
  tr : TR K Hf H H0 p0 as s.2
  ow : ∀ p, Own s.1 σ p → H0 p ≠ none
structure LB (K : PySem.W.Frag) (p0 : Addr) (as : List Addr) (Hf H : Hp) (ρ : Env) (σ : L2.St) (Hf1 H1 : Hp) (ρ1 : Env) (σ1 : L2.St) : Prop where
  st : Step (fun a => Own ρ σ a ∨ a = p0 ∨ a ∈ as) Hf H Hf1 H1
  ow : ∀ p, Own ρ1 σ1 p → Own ρ σ p
  ref : ∀ i, isRef (get ρ1 i) = isRef (get ρ i) ∧ (isRef (get ρ i) = true → slot σ1 i = slot σ i)
  len : ρ1.length = ρ.length
def ST2 (K : PySem.W.Frag) (t : Nat) (ts : TS) (m : ES → Option ES) : Prop := ∀ (s s' : ES) (σ : L2.St) (Hf H H0 : Hp) (p0 : Addr) (as : List Addr), m s = some s' → LI K Hf H H0 t p0 as s σ → ∀ D : Ends,
  (∀ σ' Hf' H', LI K Hf' H' H0 t p0 as s' σ' → LB K p0 as Hf H s.1 σ Hf' H' s'.1 σ' → D.nx σ' H') → ts D σ H
section
variable {K : PySem.W.Frag} {Hf H Hf' H' Hf1 H1 Hf2 H2 H0 : Hp} {ρ ρ' ρ1 ρ2 : Env} {σ σ' σ1 σ2 : L2.St} {X : Cx} {t : Nat} {p0 : Addr} {as : List Addr} {T : List (List PV)} {s s' : ES}
theorem LB.refl (E : RepE K Hf H ρ σ) : LB K p0 as Hf H ρ σ Hf H ρ σ := ⟨.refl E.ff, fun _ h => h, fun _ => ⟨rfl, fun _ => rfl⟩, rfl⟩
theorem LB.trans (a : LB K p0 as Hf H ρ σ Hf1 H1 ρ1 σ1) (b : LB K p0 as Hf1 H1 ρ1 σ1 Hf2 H2 ρ2 σ2) : LB K p0 as Hf H ρ σ Hf2 H2 ρ2 σ2 := by
  refine ⟨a.st.trans b.st fun p h => .inl (h.imp (a.ow p) id), fun p h => a.ow p (b.ow p h), fun i => ?_, b.len.trans a.len⟩
  obtain ⟨x1, x2⟩ := a.ref i
  obtain ⟨y1, y2⟩ := b.ref i
  exact ⟨y1.trans x1, fun h => (y2 (x1.trans h)).trans (x2 h)⟩
theorem TR.keep (R : TR K Hf H H0 p0 as T) {O : Addr → Prop} (S : Step O Hf H Hf1 H1) (ho : ∀ p, O p → H0 p ≠ none) : TR K Hf1 H1 H0 p0 as T := by
  have n0 : ¬ O p0 := fun h => ho _ h R.z0
  refine ⟨S.keep _ _ R.h0 n0, (S.nof _ _ R.h0 n0).trans R.f0, R.z0, R.nd, R.ne, R.len, fun i hi hT => ?_⟩
  obtain ⟨r1, r2, vs, r3, r4⟩ := R.row i hi hT
  have ni : ¬ O as[i] := fun h => ho _ h r1
  exact ⟨r1, (S.nof _ _ r3 ni).trans r2, vs, S.keep _ _ r3 ni, dps_mono S.ff _ _ r4⟩
/-- behind an expression -/
theorem LI.bh (L : LI K Hf H H0 t p0 as s σ) (B : Bh K Hf H s.1 σ Hf1 H1 ρ1) : LI K Hf1 H1 H0 t p0 as (ρ1, s.2) σ := by
  refine ⟨B.en, L.sl, ?_, (B.kp.ref t).trans L.gr, L.tr.keep B.st L.ow, fun p h => L.ow p (B.kp.sub h)⟩
  cases z : isOb (get ρ1 t) with
  | false => rfl
  | true => have := B.kp.own t z; rw [L.go] at this; cases this
theorem Bh.lb (B : Bh K Hf H ρ σ Hf1 H1 ρ1) (E : RepE K Hf H ρ σ) : LB K p0 as Hf H ρ σ Hf1 H1 ρ1 σ :=
  ⟨B.st.weak fun _ h => .inl (.inl h), fun _ h => B.kp.sub h, fun i => ⟨B.kp.ref i, fun _ => rfl⟩, B.en.len.trans E.len.symm⟩
theorem LI.put {i : Nat} {v : PV} {u : V} (L : LI K Hf H H0 t p0 as s σ) (hi : i ≠ t) (h : put i (some (.val v)) s.1 = some ρ') (d : Dp K Hf u v) : LI K Hf H H0 t p0 as (ρ', s.2) (σ.set i (some u)) ∧ LB K p0 as Hf H s.1 σ Hf H ρ' (σ.set i (some u)) := by
  obtain ⟨E1, h1, _, h3⟩ := put_ok (s := .val v) (u := u) L.en h d fun p h => nomatch h
  have ow : ∀ p, Own ρ' (σ.set i (some u)) p → Own s.1 σ p := fun p hp => (h1 p hp).elim id fun z => nomatch z.1
  have hg : get ρ' t = get s.1 t := by
    unfold Py.put at h
    split at h
    · cases h
    · cases h; rw [get_set, if_neg (fun z => hi z.1)]
  refine ⟨⟨E1, ?_, by rw [hg]; exact L.go, by rw [hg]; exact L.gr, L.tr, fun p h => L.ow p (ow p h)⟩, .refl L.en.ff, ow, fun j => h3 j rfl, ?_⟩
  · rw [slot_set, if_neg (fun z => hi z.1)]; exact L.sl
  · rw [E1.len, List.length_set, L.en.len]
theorem st2_asg {i : Nat} {te : TE} {m : M} (hi : i ≠ t) (ha : SE K te m) : ST2 K t (tAsg te (L2.gName i)) (ladP i m) := by
  intro s s' σ Hf H H0 p0 as hm L D q
  simp only [ladP, Option.bind_eq_some_iff, Option.map_eq_some_iff] at hm
  obtain ⟨⟨x, ρ1⟩, e1, ⟨v, ρ2⟩, e2, ρ3, e3, rfl⟩ := hm
  refine ha s.1 x ρ1 σ Hf H e1 L.en _ fun u Hf1 H1 S1 E1 R1 k1 => ?_
  obtain ⟨Hf2, B2, d⟩ := (⟨S1, E1, k1⟩ : Bh K Hf H s.1 σ Hf1 H1 ρ1).frz L.en R1 e2
  have L2' := L.bh B2
  obtain ⟨L3, B3⟩ := L2'.put (u := u) hi e3 d
  exact q _ _ _ L3 ((B2.lb L.en).trans B3)
theorem st2_seq {ta tb : TS} {m n : ES → Option ES} (ha : ST2 K t ta m) (hb : ST2 K t tb n) : ST2 K t (tSeq ta tb) (ladQ m n) := by
  intro s s' σ Hf H H0 p0 as hm L D q
  simp only [ladQ, Option.bind_eq_some_iff] at hm
  obtain ⟨s1, e1, e2⟩ := hm
  refine ha s s1 σ Hf H H0 p0 as e1 L _ fun σ1 Hf1 H1 L1 B1 => ?_
  exact hb s1 s' σ1 Hf1 H1 H0 p0 as e2 L1 D fun σ2 Hf2 H2 L2 B2 => q σ2 Hf2 H2 L2 (B1.trans B2)
theorem intAt_ok {i : Nat} {z : Int} (E : RepE K Hf H ρ σ) (h : intAt ρ i = some z) : slot σ i = some (.int z) := by
  unfold intAt at h
  split at h
  · rename_i e
    cases h
    obtain ⟨u, a, b⟩ := E.sl i _ e
    cases (show Dp K Hf u (.int z) from b)
    exact a
  · cases h
theorem dps_set2 : ∀ {vs : List V} {ds : List PyData} {j : Nat} {v : V} {d : PyData}, DpAll K Hf vs ds → Dp K Hf v d → DpAll K Hf (vs.set j v) (ds.set j d)
  | _, _, _, _, _, .nil, _ => .nil
  | _, _, 0, _, _, .cons _ h, r => .cons r h
  | _, _, j + 1, _, _, .cons h0 h, r => .cons h0 (dps_set2 h r)
theorem st2_set {iX iY : Nat} {te : TE} {m : M} (ha : SE K te m) : ST2 K t (tAsg te (gSub (tOp (rIxL K) (tVar t) (tVar iX)) (tVar iY) rSetL)) (ladS iX iY m) := by
  intro s s' σ Hf H H0 p0 as hm L D q
  simp only [ladS, Option.bind_eq_some_iff, Option.map_eq_some_iff, set2] at hm
  obtain ⟨⟨x, ρ1⟩, e1, ⟨v, ρ2⟩, e2, a, e3, b, e4, T', ⟨i, e5, r, e6, j, e7, e8⟩, e9⟩ := hm
  subst e8 e9
  refine ha s.1 x ρ1 σ Hf H e1 L.en _ fun u Hf1 H1 S1 E1 R1 k1 => ?_
  obtain ⟨Hf2, B2, d⟩ := (⟨S1, E1, k1⟩ : Bh K Hf H s.1 σ Hf1 H1 ρ1).frz L.en R1 e2
  have L2' := L.bh B2
  have R := L2'.tr
  obtain ⟨hiT, er⟩ := List.getElem?_eq_some_iff.mp e6
  have hlen := R.len
  have hia : i < as.length := by have := R.len; dsimp only at this; omega
  obtain ⟨r1, r2, vs, r3, r4⟩ := R.row i hia hiT
  have er' : s.2[i] = r := er
  dsimp only at r4
  rw [er'] at r4
  refine ⟨_, slot_at L2'.sl, _, slot_at (intAt_ok B2.en e3), p0, as.map V.ref, a, .ref as[i], rfl, rfl, SqL.of R.h0, ?_, _, slot_at (intAt_ok B2.en e4), as[i], vs, b, j, rfl, rfl, r3, ?_, ?_⟩
  · unfold L2.atI
    rw [List.length_map, R.len]
    have : L2.ixN s.2.length a = some i := e5
    rw [show ((ρ2, s.2) : ES).2.length = s.2.length from rfl, this]
    simp [hia]
  · rw [dps_len r4]; exact e7
  · have SA := Step.at (H := H1) (D := as[i]) (o := .lst (vs.set j u)) L2'.en.ff r2
    refine q σ Hf2 _ ⟨L2'.en.step SA fun p hp z => ?_, L2'.sl, L2'.go, L2'.gr, ?_, L2'.ow⟩ ((B2.lb L.en).trans ⟨SA.weak fun p hp => .inl (.inr (.inr (by rw [hp]; exact List.getElem_mem hia))), fun _ h => h, fun _ => ⟨rfl, fun _ => rfl⟩, rfl⟩)
    · rw [z] at hp; exact L2'.ow _ hp r1
    · refine ⟨?_, R.f0, R.z0, R.nd, R.ne, by rw [List.length_set]; exact R.len, fun k hk hT => ?_⟩
      · rw [upd_ne (fun z => R.ne (by rw [z]; exact List.getElem_mem hia))]; exact R.h0
      · rw [List.length_set] at hT
        obtain ⟨q1, q2, ws, q3, q4⟩ := R.row k hk hT
        by_cases c : i = k
        · subst c
          refine ⟨q1, q2, vs.set j u, upd_same, ?_⟩
          rw [List.getElem_set_self]
          exact dps_set2 r4 d
        · refine ⟨q1, q2, ws, ?_, ?_⟩
          · rw [upd_ne (fun z => c ((List.getElem_inj R.nd).mp z.symm))]; exact q3
          · rw [List.getElem_set_ne c]; exact q4
end
section
variable {K : PySem.W.Frag} {Hf H Hf' H' Hf1 H1 Hf2 H2 H0 : Hp} {ρ ρ' ρ1 ρ2 : Env} {σ σ' σ1 σ2 : L2.St} {X : Cx} {t : Nat} {p0 : Addr} {as : List Addr} {T : List (List PV)} {s s' : ES}
theorem walk_any {lo : Int} {n i : Nat} {H : Hp} : (∀ x, (rangeL lo n)[i]? = some x → (Itr lo n).go i H ∧ ∀ u H3, (Itr lo n).yld i H u H3 → H3 = H ∧ ∀ Hf, Dp K Hf u x) ∧ ((rangeL lo n).length ≤ i → (Itr lo n).stop i H) := by
  unfold rangeL
  constructor
  · intro x hx
    rw [List.getElem?_map, Option.map_eq_some_iff] at hx
    obtain ⟨k, h1, rfl⟩ := hx
    obtain ⟨h2, h3⟩ := List.getElem?_eq_some_iff.mp h1
    rw [List.getElem_range] at h3
    subst h3
    rw [List.length_range] at h2
    exact ⟨h2, fun u H3 ⟨e1, e2⟩ => ⟨e1, fun Hf => by rw [e2]; exact .int _⟩⟩
  · intro hi
    have h : n ≤ i := by simpa using hi
    exact h
theorem st2_for {i : Nat} {te : TE} {a : M} {tb : TS} {body : ES → Option ES} (hi : i ≠ t) (ha : SE K te a) (hb : ST2 K t tb body) : ST2 K t (tFor (L2.iRng1 (tCons te tNil)) (L2.gName i) tb) (ladF i a body) := by
  intro s s' σ Hf H H0 p0 as hm L D q
  simp only [ladF, Py.iRng1, Option.bind_eq_some_iff] at hm
  obtain ⟨⟨xs, ρ1'⟩, ⟨⟨x, ρ1⟩, e1, c, e2, n, e3, e4⟩, e5⟩ := hm
  split at e4
  · rename_i hz
    cases e4
    refine ha s.1 x ρ1 σ Hf H e1 L.en _ fun u Hf1 H1 S1 E1 R1 k1 => ?_
    have B1 : Bh K Hf H s.1 σ Hf1 H1 ρ1 := ⟨S1, E1, k1⟩
    have hl : (line : Int) = 16777216 := rfl
    have L1 := L.bh B1
    refine ⟨n, by rw [intOf_some e3 (look_ok E1 R1 e2)], by omega, by omega, ?_⟩
    refine ⟨fun j m σ2 H2 => m = (rangeL 0 n.toNat).length - j ∧ j ≤ (rangeL 0 n.toNat).length ∧ ∃ s2 Hf2, lop i body ((rangeL 0 n.toNat).drop j) s2 = some s' ∧ LI K Hf2 H2 H0 t p0 as s2 σ2 ∧ LB K p0 as Hf H s.1 σ Hf2 H2 s2.1 σ2, ⟨_, rfl, Nat.zero_le _, (ρ1, s.2), Hf1, e5, L1, B1.lb L.en⟩, ?_⟩
    rintro j m σ2 H2 ⟨rfl, hj, s2, Hf2, e, L2', B2⟩
    obtain ⟨w1, w2⟩ := walk_any (K := K) (lo := 0) (n := n.toNat) (i := j) (H := H2)
    cases hd : (rangeL 0 n.toNat).drop j with
    | nil =>
      rw [hd] at e
      cases e
      have hle : (rangeL 0 n.toNat).length ≤ j := by
        have := congrArg List.length hd
        rw [List.length_drop, List.length_nil] at this
        omega
      exact .inl ⟨w2 hle, q σ2 Hf2 H2 L2' B2⟩
    | cons x r =>
      rw [hd] at e
      obtain ⟨hx, hr⟩ := drop_get hd
      have hlt : j < (rangeL 0 n.toNat).length := (List.getElem?_eq_some_iff.mp hx).1
      obtain ⟨go, yl⟩ := w1 x hx
      simp only [lop, Option.bind_eq_some_iff] at e
      obtain ⟨ρ3, f1, s4, f2, f3⟩ := e
      refine .inr ⟨go, fun σ' H' => ∃ s5 Hf5, lop i body ((rangeL 0 n.toNat).drop (j + 1)) s5 = some s' ∧ LI K Hf5 H' H0 t p0 as s5 σ' ∧ LB K p0 as Hf H s.1 σ Hf5 H' s5.1 σ', fun σ' H' ⟨s5, Hf5, h1, h2, h3⟩ => ⟨_, by omega, rfl, hlt, s5, Hf5, h1, h2, h3⟩, fun u H3 hy => ?_⟩
      obtain ⟨rfl, du⟩ := yl u H3 hy
      obtain ⟨L3, B3⟩ := L2'.put (u := u) hi f1 (du Hf2)
      refine hb (ρ3, s2.2) s4 _ Hf2 H3 H0 p0 as f2 L3 _ fun σ4 Hf4 H4 L4 B4 => ?_
      exact ⟨s4, Hf4, by rw [hr]; exact f3, L4, (B2.trans B3).trans B4⟩
  · cases e4
end
section
variable {K : PySem.W.Frag} {Hf H Hf' H' Hf1 H1 Hf2 H2 H0 : Hp} {ρ ρ' ρ1 ρ2 : Env} {σ σ' σ1 σ2 : L2.St} {X : Cx} {t : Nat} {p0 : Addr} {as : List Addr} {T : List (List PV)} {s s' : ES}
theorem dps_of : ∀ {vs : List V} {ds : List PyData}, vs.length = ds.length → (∀ i (hi : i < vs.length) (hj : i < ds.length), Dp K H vs[i] ds[i]) → DpAll K H vs ds
  | [], [], _, _ => .nil
  | [], _ :: _, h, _ => by cases h
  | _ :: _, [], h, _ => by cases h
  | v :: vs, d :: ds, h, hd => .cons (hd 0 (by simp) (by simp)) (dps_of (by simpa using h) fun i hi hj => hd (i + 1) (by simpa using hi) (by simpa using hj))
theorem rep_none {u : V} (E : RepE K Hf H ρ σ) (h : get ρ t = none) : RepE K Hf H ρ (σ.set t (some u)) ∧ ∀ p, Own ρ (σ.set t (some u)) p → Own ρ σ p := by
  have hs : ∀ j s, get ρ j = some s → slot (σ.set t (some u)) j = slot σ j := fun j s e => by
    rw [slot_set, if_neg]
    rintro ⟨rfl, _⟩
    rw [h] at e; cases e
  have ho : ∀ j p, OwnAt ρ (σ.set t (some u)) j p → OwnAt ρ σ j p := fun j p ⟨a, b⟩ => by
    refine ⟨a, ?_⟩
    cases g : get ρ j with
    | none => rw [g] at a; cases a
    | some s => rw [← hs j s g]; exact b
  refine ⟨⟨by rw [List.length_set]; exact E.len, E.ff, fun i s e => ?_, fun i j p a b => E.dis i j p (ho i p a) (ho j p b)⟩, fun p ⟨j, a⟩ => ⟨j, ho j p a⟩⟩
  rw [hs i s e]
  exact E.sl i s e
/-- the table, done: a list of its own -/
theorem LI.done (L : LI K Hf H H0 t p0 as s σ) : ∃ Hf2, Step (fun a => a ∈ as) Hf H Hf2 H ∧ RepE K Hf2 H (s.1.set t (some (.own (.lst (s.2.map PyData.list))))) σ ∧ (∀ p, Own (s.1.set t (some (.own (.lst (s.2.map PyData.list))))) σ p → Own s.1 σ p ∨ p = p0) ∧
    ∀ j, isRef (get (s.1.set t (some (.own (.lst (s.2.map PyData.list))))) j) = isRef (get s.1 j) := by
  have R := L.tr
  have hn : ∀ a ∈ as, Hf a = none ∧ H0 a = none := fun a ha => by
    obtain ⟨i, hi, rfl⟩ := List.getElem_of_mem ha
    obtain ⟨r1, r2, _⟩ := R.row i hi (by rw [← R.len]; exact hi)
    exact ⟨r2, r1⟩
  obtain ⟨Hf2, hf2⟩ : ∃ Hf2 : Hp, Hf2 = fun a => if a ∈ as then H a else Hf a := ⟨_, rfl⟩
  have S : Step (fun a => a ∈ as) Hf H Hf2 H := by
    rw [hf2]
    refine ⟨fun a o e => ?_, fun a o e => ?_, fun _ _ e _ => e, fun a o e n => if_neg n, fun a o e => ⟨o, e⟩⟩
    · show (if a ∈ as then H a else Hf a) = some o
      rw [if_neg (fun z => by rw [(hn a z).1] at e; cases e)]; exact e
    · have e' : (if a ∈ as then H a else Hf a) = some o := e
      split at e'
      · exact e'
      · exact L.en.ff a o e'
  have E2 := L.en.step S fun p hp z => L.ow p hp (hn p z).2
  have hput : Py.put t (some (.own (.lst (s.2.map PyData.list)))) s.1 = some (s.1.set t (some (.own (.lst (s.2.map PyData.list))))) := by
    unfold Py.put
    rw [if_neg (by rw [L.gr]; decide)]
  have hsame : σ.set t (some (V.ref p0)) = σ := by
    refine List.ext_getElem? fun j => ?_
    by_cases c : t = j
    · subst c
      have h1 := slot_at L.sl
      obtain ⟨h2, h3⟩ := List.getElem?_eq_some_iff.mp h1
      rw [List.getElem?_set_self h2, h1]
    · rw [List.getElem?_set_ne c]
  have hrep : RepSl K Hf2 H (.own (.lst (s.2.map PyData.list))) (.ref p0) := by
    refine ⟨p0, rfl, by rw [hf2]; show (if p0 ∈ as then H p0 else Hf p0) = none; rw [if_neg R.ne]; exact R.f0, as.map V.ref, R.h0, dps_of (by rw [List.length_map, List.length_map]; exact R.len) fun i hi hj => ?_⟩
    rw [List.length_map] at hi hj
    obtain ⟨r1, r2, vs, r3, r4⟩ := R.row i hi hj
    rw [List.getElem_map, List.getElem_map]
    refine .lst (SqL.of (xs := vs) ?_) (dps_mono S.ff _ _ r4)
    rw [hf2]
    show (if as[i] ∈ as then H as[i] else Hf as[i]) = _
    rw [if_pos (List.getElem_mem hi)]
    exact r3
  obtain ⟨F1, F2, _, F4⟩ := put_ok (u := .ref p0) E2 hput hrep fun p _ z hp => by cases z; exact L.ow _ hp R.z0
  rw [hsame] at F1 F2
  exact ⟨Hf2, S, F1, fun p hp => (F2 p hp).imp id fun z => by cases z.2; rfl, fun j => (F4 j rfl).1⟩
end
section
variable {K : PySem.W.Frag} {Hf H Hf' H' Hf1 H1 Hf2 H2 H0 : Hp} {ρ ρ' ρ1 ρ2 : Env} {σ σ' σ1 σ2 : L2.St} {X : Cx} {t iO iN : Nat} {p0 : Addr} {as : List Addr} {T : List (List PV)} {s s' : ES} {vs : List Nat}
theorem ss_lad {teN teRow : TE} {tt : TT} {tl : TS} {mRow : M} {loops : ES → Option ES} (hN : SE K teN (mVar iN)) (ht : ST K tt tYes) (he : SE K teRow mRow) (hl : ST2 K t tl loops) (hv : iO ∈ vs) :
    SS K (tSeq (tAsg (tLc (L2.iRng1 (tCons teN tNil)) (L2.gName iO) tt teRow vs) (L2.gName t)) tl) (sLad t iO iN vs mRow loops) := by
  intro ρ f ρ' σ Hf H hm E D q
  unfold sLad at hm
  split at hm
  · rename_i n hg
    split at hm
    · rename_i h
      simp only [Option.bind_eq_some_iff, Option.some.injEq, Prod.mk.injEq] at hm
      obtain ⟨s, e1, rfl, rfl⟩ := hm
      obtain ⟨n0, n1, gt, tl', hvs, hex⟩ := id h
      have hrow := h.2.2.2.2.2.choose_spec
      generalize h.2.2.2.2.2.choose = row at *
      have hln : (line : Int) = 16777216 := rfl
      refine hN ρ (.val (.int n)) ρ σ Hf H (by simp [mVar, hg]) E _ fun u Hf1 H1 S1 E1 R1 k1 => ?_
      cases (show Dp K Hf1 u (.int n) from R1)
      refine ⟨n, rfl, by omega, by omega, ?_⟩
      intro Dd hD
      have fD : Hf1 Dd = none := by
        cases z : Hf1 Dd with
        | none => rfl
        | some o => have := E1.ff Dd o z; rw [hD] at this; cases this
      have there : ∀ p, Own ρ σ p → H1 p ≠ none := fun p hp z => by
        obtain ⟨⟨o, ho⟩, _⟩ := E1.there hp
        rw [z] at ho; cases ho
      have wsub : ∀ p, Own (Py.wipe ρ vs) (L2.wipe σ vs) p → Own ρ σ p := fun p ⟨j, a, b⟩ => by
        rw [get_wipe] at a
        rw [slot_wipe] at b
        by_cases hj : j ∈ vs
        · rw [if_pos hj] at a; cases a
        · rw [if_neg hj] at a b; exact ⟨j, a, b⟩
      have ww : L2.wipe (L2.wipe σ vs) vs = L2.wipe σ vs := by
        apply List.ext_getElem?
        intro j
        rw [wipe_get?, wipe_length, wipe_get?]
        by_cases hj : j ∈ vs ∧ j < σ.length <;> simp [hj]
      have st0 := Step.at (o := .lst []) E1.ff fD
      refine ⟨fun i m H2 => m = n.toNat - i ∧ i ≤ n.toNat ∧ ∃ Hf2 as, as.length = i ∧ Step (fun a => Own ρ σ a ∨ a = Dd) Hf1 H1 Hf2 H2 ∧ RepE K Hf2 H2 ρ σ ∧ TR K Hf2 H2 H1 Dd as (List.replicate i row),
        ⟨_, rfl, Nat.zero_le _, Hf1, [], rfl, st0.weak fun p hp => .inl (.inr hp), E1.step st0 fun p hp z => there p hp (by rw [z]; exact hD), upd_same, fD, hD, .nil, by simp, rfl, fun i hi => by simp at hi⟩, ?_⟩
      rintro i m H2 ⟨rfl, hi, Hf2, as, hl1, S2, E2, R2⟩
      obtain ⟨w1, w2⟩ := walk_any (K := K) (lo := 0) (n := n.toNat) (i := i) (H := H2)
      by_cases c : i < n.toNat
      · have hx : (rangeL 0 n.toNat)[i]? = some (.int ((0 : Int) + (i : Int))) := by unfold rangeL; simp [c]
        obtain ⟨go, yl⟩ := w1 _ hx
        refine .inr ⟨go, fun H' => ∃ Hf2 as, as.length = i + 1 ∧ Step (fun a => Own ρ σ a ∨ a = Dd) Hf1 H1 Hf2 H' ∧ RepE K Hf2 H' ρ σ ∧ TR K Hf2 H' H1 Dd as (List.replicate (i + 1) row), fun H' z => ⟨_, by omega, rfl, c, z⟩, fun x H3 hy => ?_⟩
        obtain ⟨rfl, dx⟩ := yl x H3 hy
        have dx' := dx Hf2
        rw [Int.zero_add] at dx'
        have hput : Py.put iO (some (.val (.int (i : Int)))) (Py.wipe ρ vs) = some ((Py.wipe ρ vs).set iO (some (.val (.int (i : Int))))) := by
          unfold Py.put
          rw [get_wipe, if_pos hv]
          rfl
        obtain ⟨F1, F2, _, _⟩ := put_ok (s := .val (.int (i : Int))) (u := x) (E2.wipe vs) hput dx' fun p z => nomatch z
        have osub : ∀ p, Own ((Py.wipe ρ vs).set iO (some (.val (.int (i : Int))))) ((L2.wipe σ vs).set iO (some x)) p → Own ρ σ p := fun p hp => (F2 p hp).elim (wsub p) fun z => nomatch z.1
        refine ⟨by rw [wipe_set hv, ww], ?_⟩
        refine ht _ true _ _ Hf2 H3 rfl F1 _ fun Hf3 H4 S3 E3 k3 => ?_
        rw [if_pos rfl]
        refine he _ (.new (.lst row)) _ _ Hf3 H4 (hrow i c) E3 _ fun y Hf4 H5 S4 E4 R4 k4 => ?_
        obtain ⟨p, rfl, z1, z2, ws, z3, z4⟩ := R4
        have RA := (R2.keep S3 fun p hp => there p (osub p hp)).keep S4 fun p hp => there p (osub p hp)
        have R3 := R2.keep S3 fun p hp => there p (osub p hp)
        have S24 : Step (fun a => Own ρ σ a ∨ a = Dd) Hf1 H1 Hf4 H5 := (S2.trans S3 fun p hp => .inl (.inl (osub p hp))).trans S4 fun p hp => .inl (.inl (osub p hp))
        have S23 : Step (fun a => Own ρ σ a ∨ a = Dd) Hf1 H1 Hf3 H4 := S2.trans S3 fun p hp => .inl (.inl (osub p hp))
        have hgj : ∀ j s, get ρ j = some s → get ((Py.wipe ρ vs).set iO (some (.val (.int (i : Int))))) j = some s ∧ slot ((L2.wipe σ vs).set iO (some x)) j = slot σ j := fun j s e => by
          have hj : j ∉ vs := fun z => by rw [hvs j z] at e; cases e
          have hji : ¬ (iO = j ∧ iO < (Py.wipe ρ vs).length) := fun z => hj (by rw [← z.1]; exact hv)
          have hji2 : ¬ (iO = j ∧ iO < (L2.wipe σ vs).length) := fun z => hj (by rw [← z.1]; exact hv)
          exact ⟨by rw [get_set, if_neg hji, get_wipe, if_neg hj, e], by rw [slot_set, if_neg hji2, slot_wipe, if_neg hj]⟩
        have hoj : ∀ j p, OwnAt ρ σ j p → OwnAt ((Py.wipe ρ vs).set iO (some (.val (.int (i : Int))))) ((L2.wipe σ vs).set iO (some x)) j p := fun j p ⟨a, b⟩ => by
          cases g : get ρ j with
          | none => rw [g] at a; cases a
          | some s =>
            obtain ⟨g1, g2⟩ := hgj j s g
            exact ⟨by rw [g1, ← g]; exact a, by rw [g2]; exact b⟩
        have E24 : RepE K Hf4 H5 ρ σ := ⟨E.len, E4.ff, fun j s e => by
          obtain ⟨g1, g2⟩ := hgj j s e
          have := E4.sl j s g1
          rwa [g2] at this, fun j k p a b => E4.dis j k p (hoj j p a) (hoj k p b)⟩
        have hpD : p ≠ Dd := fun z => by rw [z, R3.h0] at z1; cases z1
        have hp1 : H1 p = none := S23.fresh z1
        have hpas : p ∉ as := fun z => by
          obtain ⟨k, hk, rfl⟩ := List.getElem_of_mem z
          obtain ⟨_, _, vs', r3, _⟩ := R3.row k hk (by rw [List.length_replicate]; omega)
          rw [r3] at z1; cases z1
        have SA := Step.at (H := H5) (D := Dd) (o := .lst (as.map V.ref ++ [.ref p])) E24.ff RA.f0
        refine ⟨as.map V.ref, RA.h0, by rw [List.length_map, ← line_eq]; unfold line; omega, Hf4, as ++ [p], by simp [hl1], S24.trans SA fun a ha => .inl (.inr ha), E24.step SA fun a ha z => there a ha (by rw [z]; exact hD), ?_⟩
        refine ⟨by rw [upd_same, List.map_append]; rfl, RA.f0, hD, List.nodup_append.mpr ⟨RA.nd, by simp, fun a ha b hb z => hpas (by rw [List.mem_singleton.mp hb] at z; rw [← z]; exact ha)⟩, fun z => (List.mem_append.mp z).elim RA.ne fun z => hpD (List.mem_singleton.mp z).symm, by simp [hl1], fun k hk hT => ?_⟩
        rw [List.getElem_replicate]
        by_cases ck : k < as.length
        · rw [List.getElem_append_left ck]
          obtain ⟨r1, r2, vs', r3, r4⟩ := RA.row k ck (by rw [List.length_replicate]; omega)
          rw [List.getElem_replicate] at r4
          exact ⟨r1, r2, vs', by rw [upd_ne (fun z => RA.ne (by rw [← z]; exact List.getElem_mem ck))]; exact r3, r4⟩
        · have : k = as.length := by rw [List.length_append, List.length_singleton] at hk; omega
          subst this
          rw [List.getElem_append_right (Nat.le_refl _)]
          simp only [Nat.sub_self, List.getElem_singleton]
          exact ⟨hp1, z2, ws, by rw [upd_ne hpD]; exact z3, z4⟩
      · obtain rfl : i = n.toNat := by omega
        refine .inl ⟨w2 (by unfold rangeL; simp), ?_⟩
        obtain ⟨G1, G2⟩ := rep_none (t := t) (u := .ref Dd) E2 gt
        have L : LI K Hf2 H2 H1 t Dd as (ρ, List.replicate n.toNat row) (σ.set t (some (.ref Dd))) := by
          refine ⟨G1, by rw [slot_set, if_pos ⟨rfl, by rw [← E.len]; exact tl'⟩], by rw [gt]; rfl, by rw [gt]; rfl, R2, fun p hp => there p (G2 p hp)⟩
        refine hl (ρ, List.replicate n.toNat row) s (σ.set t (some (.ref Dd))) Hf2 H2 H1 Dd as e1 L D fun σ' Hf' H' L' B' => ?_
        obtain ⟨Hf3, S3, E3, O3, F3⟩ := L'.done
        have hD0 : H Dd = none := S1.fresh hD
        have has : ∀ a ∈ as, H a = none := fun a ha => by
          obtain ⟨k, hk, rfl⟩ := List.getElem_of_mem ha
          obtain ⟨r1, _⟩ := R2.row k hk (by rw [List.length_replicate]; omega)
          exact S1.fresh r1
        have ST := ((S1.trans S2 fun p hp => hp.imp id fun z => by rw [z]; exact hD0).trans B'.st fun p hp => by
          rcases hp with hp | hp | hp
          · exact .inl (G2 p hp)
          · exact .inr (by rw [hp]; exact hD0)
          · exact .inr (has p hp)).trans S3 fun p hp => .inr (has p hp)
        refine q σ' Hf3 H' ⟨ST, E3, fun p hp => ?_, fun j => ?_⟩
        · rcases O3 p hp with z | z
          · exact .inl (G2 p (B'.ow p z))
          · exact .inr (by rw [z]; exact hD0)
        · obtain ⟨x1, x2⟩ := B'.ref j
          refine ⟨(F3 j).trans x1, fun hj => (x2 hj).trans ?_⟩
          rw [slot_set, if_neg]
          rintro ⟨rfl, _⟩
          rw [gt] at hj; cases hj
    · cases hm
  · cases hm
end
/-! ### the rules -/
structure BT2 (X : Cx) (t : Nat) (st : Stmt) (m : ES → Option ES) : Prop where
  ex : ∃ ts, PS X st ts ∧ ST2 X.K t ts m
structure BTs2 (X : Cx) (t : Nat) (sts : List Stmt) (m : ES → Option ES) : Prop where
  ex : ∃ ts, PSs X sts ts ∧ ST2 X.K t ts m
section
variable {X : Cx} {t iO iN : Nat} {a b : Expr} {ma mb : M} {m n : ES → Option ES} {st st1 st2 : Stmt} {sts sts2 : List Stmt} {x y tbl : Str} {p p' pos : Pos}
theorem bt2_one (h : BT2 X t st m) : BTs2 X t [st] m := let ⟨t, h1, h2⟩ := h; ⟨_, pss_one h1, h2⟩
theorem bt2_cons (h : BT2 X t st m) (hr : BTs2 X t sts n) : BTs2 X t (st :: sts) (ladQ m n) := let ⟨t, h1, h2⟩ := h; let ⟨u, h3, h4⟩ := hr; ⟨_, pss_cons h1 h3, st2_seq h2 h4⟩
theorem bt2_asg (i : Nat) (hN : X.N.Nodup) (ha : BE X a ma) (hit : i ≠ t := by decide) (hi : X.N[i]? = some x := by rfl) (hx : Loc X.env.scope x := by first | exact Or.inl rfl | exact Or.inr rfl) (hs : swapsWith a (some (.Name x p')) pos.line X.env = pure false := by rfl)
    (hf : X.fn x = true ∨ X.env.scope.names.lookup x = some .local := by first | exact .inl rfl | exact .inr rfl | assumption) : BT2 X t (.Assign [.Name x p'] a pos) (ladP i ma) :=
  let ⟨u, h1, h2⟩ := ha; ⟨_, ps_set hN hi hx h1 hs hf, st2_asg hit h2⟩
theorem bt2_set {px : Pos} (iX iY : Nat) {ex ey : Expr} (hot : PE X (.Name tbl px) (tVar t)) (hox : PE X ex (tVar iX)) (hoy : PE X ey (tVar iY)) (hpl : PlainIx ex) (ha : BE X a ma) (hs : swapsWithSole [.Subscript (.Subscript (.Name tbl px) ex p) ey p'] a pos.line X.env = pure false := by rfl) (hw : swappedStores [.Subscript (.Subscript (.Name tbl px) ex p) ey p'] a X.env = pure none := by rfl)
    (h1 : (assignEach [.Subscript (.Subscript (.Name tbl px) ex p) ey p'] X.env).map (·.2) = [assign (.Subscript (.Subscript (.Name tbl px) ex p) ey p') X.env] := by rfl)
    (hq : ∀ v, assign (.Subscript (.Subscript (.Name tbl px) ex p) ey p') X.env v = (do
      let ov ← holding [v] (eval (.Subscript (.Name tbl px) ex p) X.env)
      let iv ← holding [v, ov] (eval ey X.env)
      standAt p'
      holding [v, ov, iv] (setItem ov iv v)
      release [v, ov, iv] []) := by intro _; rfl) : BT2 X t (.Assign [.Subscript (.Subscript (.Name tbl px) ex p) ey p'] a pos) (ladS iX iY ma) := by
  obtain ⟨u, a1, a2⟩ := ha
  exact ⟨_, ps_asg a1 (pg_sub (pe_ix ix_list hot hox hpl) hoy set_list hq) hs hw h1, st2_set a2⟩
theorem bt2_for (i : Nat) (hp : PassesOwn (model X.prog X.w) X.A X.env X.xe) (hc : X.calm = true) (hN : X.N.Nodup) (hg : Gl X "range") (hm : X.mg "range" = none) (ha : BE X a ma) (hb : BTs2 X t sts m) (hit : i ≠ t := by decide) (hi : X.N[i]? = some x := by rfl) (hx : Loc X.env.scope x := by first | exact Or.inl rfl | exact Or.inr rfl)
    (hs' : starEach [a] X.env = [(false, eval a X.env)] := by rfl) (hs2 : starEach [a] X.env = (false, eval a X.env) :: starEach [] X.env := by rfl) (hs : ∀ z, foldedSetIterable (.Call (.Name "range" p) [a] [] p') X.env z = pure z := by intro _; rfl)
    (hf : X.fn x = true ∨ X.env.scope.names.lookup x = some .local := by first | exact .inl rfl | exact .inr rfl | assumption) : BT2 X t (.For (.Name x px) (.Call (.Name "range" p) [a] [] p') sts [] pos) (ladF i ma m) := by
  obtain ⟨u, a1, a2⟩ := ha
  obtain ⟨w, b1, b2⟩ := hb
  exact ⟨_, ps_for hp hc (pi_range1 hg hm (pa_cons a1 pa_nil hs2) hs') (pg_name hN hi hx hf) b1 hs, st2_for hit a2 b2⟩
theorem ss_three {K : PySem.W.Frag} {T1 tl v : TS} {m1 m2 : SM} (h : SS K (tSeq T1 tl) m1) (hr : SS K v m2) : SS K (tSeq T1 (tSeq tl v)) (sSeq m1 m2) := (ss_seq h hr : SS K (tSeq (tSeq T1 tl) v) (sSeq m1 m2))
theorem bss_lad {rest : List Stmt} {mr : SM} {mRow : M} {elt : Expr} {scope : Scope} {own : List (Str × Nat)} {py spos px : Pos} (hc : X.calm = true) (hN : X.N.Nodup) (hg0 : Gl X "range") (hm0 : X.mg "range" = none) (hj : X.N[t]? = some y) (hyl : X.env.scope.names.lookup y = some .local)
    (ha : BE X a (mVar iN)) (ok : blkC X.N X.env.scope scope own = true) (hm : iO ∈ own.map (·.2)) (hx : X.N[iO]? = some x)
    (hsw : swapsWith (.ListComp elt [⟨.Name x p, .Call (.Name "range" px) [a] [] p', [], 0⟩] scope pos) (some (.Name y py)) spos.line X.env = pure true)
    (hg : ∀ (s : Shared) (H : Hp) (C : Addr) (cl : List (Str × Addr)) (fp : List Addr), PG (X.blk s H scope (compEnvC scope cl C X.env) fp) (.Name x p) (L2.gName iO))
    (he : ∀ (s : Shared) (H : Hp) (C : Addr) (cl : List (Str × Addr)) (fp : List Addr), BE (X.blk s H scope (compEnvC scope cl C X.env) fp) elt mRow)
    (h2 : BT2 X t st2 m) (hr : BSs X rest mr) (hs' : starEach [a] X.env = [(false, eval a X.env)] := by rfl) (hs2 : starEach [a] X.env = (false, eval a X.env) :: starEach [] X.env := by rfl) (hs : ∀ z, foldedSetIterable (.Call (.Name "range" px) [a] [] p') X.env z = pure z := by intro _; rfl) :
    BSs X (.Assign [.Name y py] (.ListComp elt [⟨.Name x p, .Call (.Name "range" px) [a] [] p', [], 0⟩] scope pos) spos :: st2 :: rest) (sSeq (sLad t iO iN (own.map (·.2)) mRow m) mr) := by
  obtain ⟨u, a1, a2⟩ := ha
  obtain ⟨w, b1, b2⟩ := h2
  obtain ⟨v, r1, r2⟩ := hr
  exact ⟨_, pss_cons (ps_setLc hc hN hj hyl hsw (pi_range1 hg0 hm0 (pa_cons a1 pa_nil hs2) hs') (blkOk_by ok) hg (fun s H C cl fp => (bts_nil (X := X.blk s H scope (compEnvC scope cl C X.env) fp)).can) (fun s H C cl fp => (he s H C cl fp).can) hs) (pss_cons b1 r1), ss_three (ss_lad a2 st_rT se_rE b2 hm) r2⟩
end
end Py
/-! PyR0: sorted, of pairs of tuples of ints. -/
namespace Py
open PySem
def twinI? : PV → Option (List Int × List Int)
  | .tuple [.tuple ms, .tuple xs] => (ints? ms).bind fun ms => (ints? xs).map fun ns => (ms, ns)
  | _ => none
def twinV (p : List Int × List Int) : PV := .tuple [tupV p.1, tupV p.2]
def twinLe (p q : List Int × List Int) : Bool := !decide (q.1 < p.1 ∨ (q.1 = p.1 ∧ q.2 < p.2))
def fSortedR (c : Ct) : Option R := c.lst?.bind fun xs => (xs.mapM twinI?).map fun ps => .new (.lst ((ps.mergeSort twinLe).map twinV))
end Py
/-! PyR: sorted, of pairs of tuples of ints. -/
namespace Py
open PySem PySem.Spec PyProof.Rows L2
section
theorem alike_twin (p q : List Int × List Int) : PySem.W.alike (twinV p) (twinV q) = true := by
  unfold twinV tupV
  simp [PySem.W.alike, PySem.W.alikeAll, PySem.W.alike_ints]
theorem eqv_intsR : ∀ xs ys : List Int, PyData.eqvAll (xs.map .int) (ys.map .int) = true → xs = ys := by
  intro xs
  induction xs with
  | nil => intro ys h; cases ys with
    | nil => rfl
    | cons y ys => simp [PyData.eqvAll] at h
  | cons x xs ih => intro ys h; cases ys with
    | nil => simp [PyData.eqvAll] at h
    | cons y ys =>
      rw [List.map_cons, List.map_cons, PyData.eqvAll, Bool.and_eq_true] at h
      have h1 : x = y := by simpa [PyData.eqv] using h.1
      rw [h1, ih ys h.2]
theorem le_twin (p q : List Int × List Int) : PySem.W.dataLe false twinV p q = twinLe p q := by
  rw [PySem.W.dataLe_eq]
  unfold twinLe
  show (!PySem.W.dataLt (twinV q) (twinV p)) = _
  congr 1
  unfold twinV tupV
  rw [PySem.W.dataLt_pair (by simp [PySem.W.alike, PySem.W.alike_ints]) (by simp [PySem.W.alike, PySem.W.alike_ints])]
  rw [PySem.W.dataLt_tuple, PySem.W.dataLt_tuple]
  show (if _ then (if _ then false else PySem.W.rowLt _ _) else PySem.W.rowLt _ _) = _
  rw [PySem.W.dataLt_ints, PySem.W.dataLt_ints]
  have key : ∀ a b : List Int, PyData.eqv (.tuple (a.map .int)) (.tuple (b.map .int)) = decide (a = b) := fun a b => by
    by_cases h : a = b
    · rw [h, decide_eq_true rfl]
      exact PySem.W.eqv_refl_alike _ (by simp [PySem.W.alike, PySem.W.alike_ints])
    · rw [decide_eq_false h]
      cases z : PyData.eqv (.tuple (a.map .int)) (.tuple (b.map .int)) with
      | false => rfl
      | true => exact absurd (eqv_intsR _ _ (by simpa [PyData.eqv] using z)) h
  rw [key, key]
  by_cases h : q.1 = p.1
  · rw [if_pos (decide_eq_true h)]
    by_cases h2 : q.2 = p.2
    · rw [if_pos (decide_eq_true h2), h, h2]
      exact (decide_eq_false (by rintro (z | ⟨_, z⟩)
                                 · exact List.lt_irrefl _ z
                                 · exact List.lt_irrefl _ z)).symm
    · rw [if_neg (by simp [h2]), h]
      exact decide_eq_decide.mpr ⟨fun z => .inr ⟨rfl, z⟩, fun z => z.elim (fun y => absurd y (List.lt_irrefl _)) (·.2)⟩
  · rw [if_neg (by simp [h])]
    exact decide_eq_decide.mpr ⟨fun z => .inl z, fun z => z.elim id fun y => absurd y.1 h⟩
end
section
variable {K : PySem.W.Frag} {Hf H : Hp} {X : Cx}
def rSortR (K : PySem.W.Frag) : List V → Hp → VK → Prop := fun vs H Q => ∃ (a : Addr) (xs : List V) (ps : List (List Int × List Int)), vs = [V.ref a] ∧ SqL K H a xs ∧ ∃ Hf, Ex Hf H ∧ DpAll K Hf xs (ps.map twinV) ∧
  ∀ (ys : List V) (p : Addr), DpAll K Hf ys ((ps.mergeSort twinLe).map twinV) → H p = none → Q (.ref p) (upd H p (.lst ys))
theorem zip_eachR {xs : List V} {its : List Value} {ps : List (List Int × List Int)} (rv : Vals xs its) (d : DpAll K H xs (ps.map twinV)) : PySem.W.EachIs (fun v (b : V × (List Int × List Int)) => RelV b.1 v ∧ Dp K H b.1 (twinV b.2)) its (xs.zip ps) := by
  induction rv generalizing ps with
  | nil => exact .nil
  | cons r t ih =>
    cases ps with
    | nil => cases d
    | cons p ps =>
      cases d with
      | cons h1 h2 => exact .cons ⟨r, h1⟩ (ih h2)
theorem each_outR {out : List Value} {bs : List (V × (List Int × List Int))} (h : PySem.W.EachIs (fun v (b : V × (List Int × List Int)) => RelV b.1 v ∧ Dp K H b.1 (twinV b.2)) out bs) : Vals (bs.map (·.1)) out ∧ DpAll K H (bs.map (·.1)) ((bs.map (·.2)).map twinV) := by
  induction h with
  | nil => exact ⟨.nil, .nil⟩
  | cons h t ih => exact ⟨.cons h.1 ih.1, .cons h.2 ih.2⟩
theorem zip_lenR {xs : List V} : ∀ {ps : List (List Int × List Int)}, DpAll K H xs (ps.map twinV) → xs.length = ps.length := fun {ps} d => by
  rw [dps_len d, List.length_map]
theorem cr_sortR (hu : X.A.units + 64 < cLine) : CallR X (.builtin "sorted") (rSortR X.K) := by
  intro pins s σ H vs us Q I r h
  obtain ⟨a, xs, ps, rfl, hs, Hf, ef, d, q⟩ := h
  obtain ⟨its, rv, hl, hz⟩ := I.list hs
  rw [Vals.ref1 r]
  have e := zip_eachR rv d
  have hxl := zip_lenR d
  refine PySem.W.sorted_data (vs := its) (bs := xs.zip ps) (enc := fun b => twinV b.2) hl.isList e ?_ ?_ ?_ ?_ ?_ fun out hlen he => ?_
  · refine e.mono fun v b ⟨h1, h2⟩ => Dp.reads I _ _ _ (dp_mono ef _ _ h2) h1
  · exact PySem.W.AllAlike.of fun b b' => alike_twin _ _
  · exact PySem.W.Sortable.tuples fun b => ⟨_, _, rfl⟩
  · rw [List.length_zip, hxl, Nat.min_self, ← hxl]
    exact hz
  · intro b _
    have : (twinV b.2).depth ≤ 2 := by
      unfold twinV tupV
      simp [PyData.depth, PyData.depthAll, PySem.W.depth_ints]
    omega
  · have hle : (xs.zip ps).mergeSort (PySem.W.dataLe false fun b => twinV b.2) = (xs.zip ps).mergeSort fun b b' => twinLe b.2 b'.2 := by
      congr 1
      funext b b'
      rw [← le_twin]
      rfl
    rw [hle] at he
    obtain ⟨o1, o2⟩ := each_outR he
    have hm : ((xs.zip ps).mergeSort fun b b' => twinLe b.2 b'.2).map (·.2) = ps.mergeSort twinLe := by
      rw [List.map_mergeSort (s := twinLe) (fun a _ b _ => rfl), List.map_snd_zip (by omega)]
    rw [hm] at o2
    obtain ⟨ep, he'⟩ := PyProof.Rows.sortedAll_at s.heap its out.toArray
    generalize ((xs.zip ps).mergeSort fun b b' => twinLe b.2 b'.2).map (·.1) = ys at o1 o2
    have hyl : ys.length ≤ sizeLine := by
      rw [dps_len o2, List.length_map, List.length_mergeSort, ← hxl]
      exact hz
    exact ⟨.ref _, upd H (s.heap.objs.size + 1) (.lst ys), I.laid (t' := s.toks) (fun _ _ => PyProof.Rows.sortedAll_old) (Nat.le_succ _) ⟨hyl, out, ep, o1, he'⟩, rfl, q _ _ o2 (I.hok.fresh (Nat.le_succ _))⟩
theorem twinI_map {xs : List PV} {ps : List (List Int × List Int)} (h : xs.mapM twinI? = some ps) : xs = ps.map twinV := by
  induction xs generalizing ps with
  | nil => cases h; rfl
  | cons x xs ih =>
    simp only [List.mapM_cons, Option.bind_eq_bind, Option.bind_eq_some_iff] at h
    obtain ⟨n, h1, ms, h2, h3⟩ := h
    cases h3
    rw [ih h2]
    unfold twinI? at h1
    split at h1
    · rename_i ks ys
      simp only [Option.bind_eq_some_iff, Option.map_eq_some_iff] at h1
      obtain ⟨ms', e0, ns, e1, rfl⟩ := h1
      rw [ints_mapI e0, ints_mapI e1]
      rfl
    · cases h1
theorem c_sortedR (hu : X.A.units + 64 < cLine) : C1 X (.builtin "sorted") fSortedR := ⟨_, cr_sortR hu, fun Hf H c x z e hc e5 Q q => by
  simp only [fSortedR, Option.bind_eq_some_iff, Option.map_eq_some_iff] at e5
  obtain ⟨xs, h1, ps, h2, rfl⟩ := e5
  obtain ⟨a, us, rfl, hs, d⟩ := lst_ok e hc h1
  rw [twinI_map h2] at d
  exact ⟨a, us, ps, rfl, hs, Hf, e, d, fun ys p h3 hp => newL e h3 q p hp⟩⟩
end
end Py
/-! Q0: how a meaning is reckoned. -/
namespace Py
open PySem

/-- m, from ρ, gives a and ρ' of which Q holds -/
def Wp {α : Type} (m : Env → Option (α × Env)) (ρ : Env) (Q : α → Env → Prop) : Prop := ∃ a ρ', m ρ = some (a, ρ') ∧ Q a ρ'
/-- a def's value and the objects handed back -/
def Ret (d : Den) (as : List Sl) (Q : R → List Ob → Prop) : Prop := ∃ r os, d as = some (r, os) ∧ Q r os
def FinQ (as : List Sl) (f : Fl) (ρ : Env) (Q : R → List Ob → Prop) : Prop := match f with
  | .nx => ∃ os, outs as ρ = some os ∧ Q (.val .none) os
  | .rt r => ∃ r' os, leave r ρ = some r' ∧ outs as ρ = some os ∧ Q r' os
  | _ => False
section
variable {α : Type} {ρ ρ1 ρ2 : Env} {a b c : M} {t u : MT} {s s1 s2 : SM} {Q : R → Env → Prop} {QT : Bool → Env → Prop} {QS : Fl → Env → Prop} {QL : List PV → Env → Prop} {QA : List Sl → Env → Prop} {f g : Ct → Ct → Option R} {i j : Nat} {v : PV} {l : ML} {n : Nat} {as : List Sl} {QR : R → List Ob → Prop} {d : Den} {x y : R} {cx cy : Ct} {z : R}
theorem Wp.mono {m : Env → Option (α × Env)} {Q Q' : α → Env → Prop} (h : Wp m ρ Q) (k : ∀ a ρ', Q a ρ' → Q' a ρ') : Wp m ρ Q' := let ⟨a, r, e, q⟩ := h; ⟨a, r, e, k a r q⟩
theorem Ret.mono {Q Q' : R → List Ob → Prop} (h : Ret d as Q) (k : ∀ r os, Q r os → Q' r os) : Ret d as Q' := let ⟨a, r, e, q⟩ := h; ⟨a, r, e, k a r q⟩
theorem ret_mk {body : SM} (h : Wp body (startE n as) fun f ρ' => FinQ as f ρ' QR) : Ret (mkDen n body) as QR := by
  obtain ⟨f, ρ', e, q⟩ := h
  cases f with
  | nx => obtain ⟨os, e2, q⟩ := q; exact ⟨_, os, by simp [mkDen, e, e2], q⟩
  | rt r => obtain ⟨r', os, e2, e3, q⟩ := q; exact ⟨r', os, by simp [mkDen, e, e2, e3], q⟩
  | bk => exact q.elim
  | ct => exact q.elim
theorem fin_rt {r r' : R} {os : List Ob} (h1 : leave r ρ = some r') (h2 : outs as ρ = some os) (q : QR r' os) : FinQ as (.rt r) ρ QR := ⟨r', os, h1, h2, q⟩
theorem fin_nx {os : List Ob} (h2 : outs as ρ = some os) (q : QR (.val .none) os) : FinQ as .nx ρ QR := ⟨os, h2, q⟩

theorem wp_c (q : Q (.val v) ρ) : Wp (mC v) ρ Q := ⟨_, _, rfl, q⟩
theorem wp_varV {v : PV} (h : get ρ i = some (.val v)) (q : Q (.val v) ρ) : Wp (mVar i) ρ Q := ⟨_, _, by simp [mVar, h], q⟩
theorem wp_varO {o : Ob} (h : get ρ i = some (.own o)) (q : Q (.bor i) ρ) : Wp (mVar i) ρ Q := ⟨_, _, by simp [mVar, h], q⟩
theorem wp_varR {o : Ob} (h : get ρ i = some (.ref o)) (q : Q (.bor i) ρ) : Wp (mVar i) ρ Q := ⟨_, _, by simp [mVar, h], q⟩
/-- an operation at two results -/
def OpQ (f : Ct → Ct → Option R) (x y : R) (ρ : Env) (Q : R → Env → Prop) : Prop := ∃ cx cy z, look x ρ = some cx ∧ look y ρ = some cy ∧ f cx cy = some z ∧ Q z ρ
theorem opq (h1 : look x ρ = some cx) (h2 : look y ρ = some cy) (h3 : f cx cy = some z) (q : Q z ρ) : OpQ f x y ρ Q := ⟨cx, cy, z, h1, h2, h3, q⟩
theorem wp_op (h : Wp a ρ fun x ρ1 => Wp b ρ1 fun y ρ2 => OpQ f x y ρ2 Q) : Wp (mOp f a b) ρ Q := by
  obtain ⟨x, ρ1, e1, y, ρ2, e2, cx, cy, z, e3, e4, e5, q⟩ := h
  exact ⟨z, ρ2, by simp [mOp, e1, e2, e3, e4, e5], q⟩
def UnQ (f : Ct → Option R) (x : R) (ρ : Env) (Q : R → Env → Prop) : Prop := ∃ cx z, look x ρ = some cx ∧ f cx = some z ∧ Q z ρ
theorem unq {f : Ct → Option R} (h1 : look x ρ = some cx) (h3 : f cx = some z) (q : Q z ρ) : UnQ f x ρ Q := ⟨cx, z, h1, h3, q⟩
theorem wp_un {f : Ct → Option R} (h : Wp a ρ fun x ρ1 => UnQ f x ρ1 Q) : Wp (mUn f a) ρ Q := by
  obtain ⟨x, ρ1, e1, cx, z, e3, e5, q⟩ := h
  exact ⟨z, ρ1, by simp [mUn, e1, e3, e5], q⟩
theorem wp_B (h : Wp a ρ fun x ρ1 => ∃ b, look x ρ1 = some (.pv (.bool b)) ∧ QT b ρ1) : Wp (mB a) ρ QT := by
  obtain ⟨x, ρ1, e1, b, e3, q⟩ := h
  exact ⟨b, ρ1, by simp [mB, e1, e3, boolOf], q⟩
theorem wp_tru (h : Wp a ρ fun x ρ1 => ∃ cx b, look x ρ1 = some cx ∧ truOf cx = some b ∧ QT b ρ1) : Wp (mTru a) ρ QT := by
  obtain ⟨x, ρ1, e1, cx, b, e3, e4, q⟩ := h
  exact ⟨b, ρ1, by simp [mTru, e1, e3, e4], q⟩
theorem wp_and (h : Wp t ρ fun x ρ1 => (x = true → Wp u ρ1 QT) ∧ (x = false → QT false ρ1)) : Wp (mAnd t u) ρ QT := by
  obtain ⟨x, ρ1, e1, h1, h2⟩ := h
  cases x with
  | true => obtain ⟨y, ρ2, e2, q⟩ := h1 rfl; exact ⟨y, ρ2, by simp [mAnd, e1, e2], q⟩
  | false => exact ⟨false, ρ1, by simp [mAnd, e1], h2 rfl⟩
theorem wp_or (h : Wp t ρ fun x ρ1 => (x = true → QT true ρ1) ∧ (x = false → Wp u ρ1 QT)) : Wp (mOr t u) ρ QT := by
  obtain ⟨x, ρ1, e1, h1, h2⟩ := h
  cases x with
  | false => obtain ⟨y, ρ2, e2, q⟩ := h2 rfl; exact ⟨y, ρ2, by simp [mOr, e1, e2], q⟩
  | true => exact ⟨true, ρ1, by simp [mOr, e1], h1 rfl⟩
theorem wp_not (h : Wp t ρ fun x ρ1 => QT (!x) ρ1) : Wp (mNot t) ρ QT := by
  obtain ⟨x, ρ1, e1, q⟩ := h
  exact ⟨!x, ρ1, by simp [mNot, e1], q⟩
theorem wp_andV (h : Wp a ρ fun x ρ1 => ∃ k, look x ρ1 = some (.pv (.bool k)) ∧ (k = true → Wp b ρ1 Q) ∧ (k = false → Q (.val (.bool false)) ρ1)) : Wp (mAndV a b) ρ Q := by
  obtain ⟨x, ρ1, e1, k, e2, h1, h2⟩ := h
  cases k with
  | true => obtain ⟨y, ρ2, e3, q⟩ := h1 rfl; exact ⟨y, ρ2, by simp [mAndV, e1, e2, boolOf, e3], q⟩
  | false => exact ⟨_, ρ1, by simp [mAndV, e1, e2, boolOf], h2 rfl⟩
theorem wp_orV (h : Wp a ρ fun x ρ1 => ∃ k, look x ρ1 = some (.pv (.bool k)) ∧ (k = true → Q (.val (.bool true)) ρ1) ∧ (k = false → Wp b ρ1 Q)) : Wp (mOrV a b) ρ Q := by
  obtain ⟨x, ρ1, e1, k, e2, h1, h2⟩ := h
  cases k with
  | false => obtain ⟨y, ρ2, e3, q⟩ := h2 rfl; exact ⟨y, ρ2, by simp [mOrV, e1, e2, boolOf, e3], q⟩
  | true => exact ⟨_, ρ1, by simp [mOrV, e1, e2, boolOf], h1 rfl⟩
theorem wp_notV (h : Wp a ρ fun x ρ1 => ∃ k, look x ρ1 = some (.pv (.bool k)) ∧ Q (.val (.bool (!k))) ρ1) : Wp (mNotV a) ρ Q := by
  obtain ⟨x, ρ1, e1, k, e2, q⟩ := h
  exact ⟨_, ρ1, by simp [mNotV, e1, e2, boolOf], q⟩
theorem wp_ifE (h : Wp t ρ fun x ρ1 => (x = true → Wp a ρ1 Q) ∧ (x = false → Wp b ρ1 Q)) : Wp (mIfE t a b) ρ Q := by
  obtain ⟨x, ρ1, e1, h1, h2⟩ := h
  cases x with
  | true => obtain ⟨y, ρ2, e2, q⟩ := h1 rfl; exact ⟨y, ρ2, by simp [mIfE, e1, e2], q⟩
  | false => obtain ⟨y, ρ2, e2, q⟩ := h2 rfl; exact ⟨y, ρ2, by simp [mIfE, e1, e2], q⟩
theorem wp_chain (h : Wp a ρ fun x ρ1 => Wp b ρ1 fun y ρ2 => ∃ cx cy k, look x ρ2 = some cx ∧ look y ρ2 = some cy ∧ f cx cy = some (.val (.bool k)) ∧ (k = true → Wp c ρ2 fun w ρ3 => OpQ g y w ρ3 Q) ∧ (k = false → Q (.val (.bool false)) ρ2)) : Wp (mChain f g a b c) ρ Q := by
  obtain ⟨x, ρ1, e1, y, ρ2, e2, cx, cy, k, e3, e4, e5, h1, h2⟩ := h
  cases k with
  | true => obtain ⟨w, ρ3, e6, cy', cw, z, e7, e8, e9, q⟩ := h1 rfl; exact ⟨z, ρ3, by simp [mChain, e1, e2, e3, e4, e5, boolOf, show look (R.val (.bool true)) ρ2 = some (.pv (.bool true)) from rfl, e6, e7, e8, e9], q⟩
  | false => exact ⟨_, ρ2, by simp [mChain, e1, e2, e3, e4, e5, boolOf, show look (R.val (.bool false)) ρ2 = some (.pv (.bool false)) from rfl], h2 rfl⟩
/-- frozen -/
def FrzQ (x : R) (ρ : Env) (Q : PV → Env → Prop) : Prop := ∃ v ρ', frz x ρ = some (v, ρ') ∧ Q v ρ'
theorem frzV {Q : PV → Env → Prop} (q : Q v ρ) : FrzQ (.val v) ρ Q := ⟨v, ρ, rfl, q⟩
theorem frzN {Q : PV → Env → Prop} {xs : List PV} (q : Q (.list xs) ρ) : FrzQ (.new (.lst xs)) ρ Q := ⟨_, ρ, rfl, q⟩
theorem wp_frz (h : Wp a ρ fun x ρ1 => FrzQ x ρ1 fun v ρ2 => Q (.val v) ρ2) : Wp (mFrz a) ρ Q := by
  obtain ⟨x, ρ1, e1, v, ρ2, e2, q⟩ := h
  exact ⟨_, ρ2, by simp [mFrz, e1, e2], q⟩
theorem wp_lnil (q : QL [] ρ) : Wp lNil ρ QL := ⟨_, _, rfl, q⟩
theorem wp_lcons (h : Wp a ρ fun x ρ1 => FrzQ x ρ1 fun v ρ2 => Wp l ρ2 fun vs ρ3 => QL (v :: vs) ρ3) : Wp (lCons a l) ρ QL := by
  obtain ⟨x, ρ1, e1, v, ρ2, e2, vs, ρ3, e3, q⟩ := h
  exact ⟨_, ρ3, by simp [lCons, e1, e2, e3], q⟩
theorem wp_tup (h : Wp l ρ fun vs ρ1 => vs.length ≤ line ∧ Q (.val (.tuple vs)) ρ1) : Wp (mTup l) ρ Q := by
  obtain ⟨vs, ρ1, e1, hz, q⟩ := h
  exact ⟨_, ρ1, by simp [mTup, e1, hz], q⟩
theorem wp_lst (h : Wp l ρ fun vs ρ1 => vs.length ≤ line ∧ Q (.new (.lst vs)) ρ1) : Wp (mLst l) ρ Q := by
  obtain ⟨vs, ρ1, e1, hz, q⟩ := h
  exact ⟨_, ρ1, by simp [mLst, e1, hz], q⟩
theorem wp_sl {ml mh : MO} (h : Wp a ρ fun x ρ1 => Wp ml ρ1 fun i ρ2 => Wp mh ρ2 fun j ρ3 => UnQ (fSl i j) x ρ3 Q) : Wp (mSl a ml mh) ρ Q := by
  obtain ⟨x, ρ1, e1, i, ρ2, e2, j, ρ3, e3, cx, z, e4, e5, q⟩ := h
  exact ⟨z, ρ3, by simp [mSl, e1, e2, e3, e4, e5], q⟩
theorem wp_onone {Q : Option Int → Env → Prop} (q : Q none ρ) : Wp oNone ρ Q := ⟨_, _, rfl, q⟩
theorem wp_osome {Q : Option Int → Env → Prop} (h : Wp a ρ fun x ρ1 => ∃ i, look x ρ1 = some (.pv (.int i)) ∧ Q (some i) ρ1) : Wp (oSome a) ρ Q := by
  obtain ⟨x, ρ1, e1, i, e2, q⟩ := h
  exact ⟨_, ρ1, by simp [oSome, e1, e2, intOf], q⟩

/-! ### statements -/
theorem wp_next (q : QS .nx ρ) : Wp sNext ρ QS := ⟨_, _, rfl, q⟩
theorem wp_brk (q : QS .bk ρ) : Wp sBrk ρ QS := ⟨_, _, rfl, q⟩
theorem wp_cont (q : QS .ct ρ) : Wp sCont ρ QS := ⟨_, _, rfl, q⟩
/-- what is wanted behind the first of two statements -/
def SeqQ (s : SM) (Q : Fl → Env → Prop) (f : Fl) (ρ : Env) : Prop := match f with
  | .nx => Wp s ρ Q
  | f => Q f ρ
theorem wp_seq (h : Wp s1 ρ (SeqQ s2 QS)) : Wp (sSeq s1 s2) ρ QS := by
  obtain ⟨f, ρ1, e1, h⟩ := h
  cases f with
  | nx => obtain ⟨f2, ρ2, e2, q⟩ := h; exact ⟨f2, ρ2, by simp [sSeq, e1, e2], q⟩
  | rt r => exact ⟨_, ρ1, by simp [sSeq, e1], h⟩
  | bk => exact ⟨_, ρ1, by simp [sSeq, e1], h⟩
  | ct => exact ⟨_, ρ1, by simp [sSeq, e1], h⟩
theorem seq_nx (h : Wp s ρ QS) : SeqQ s QS .nx ρ := h
theorem seq_rt {r : R} (h : QS (.rt r) ρ) : SeqQ s QS (.rt r) ρ := h
theorem seq_bk (h : QS .bk ρ) : SeqQ s QS .bk ρ := h
theorem seq_ct (h : QS .ct ρ) : SeqQ s QS .ct ρ := h
theorem wp_ret (h : Wp a ρ fun x ρ1 => QS (.rt x) ρ1) : Wp (sRet a) ρ QS := by
  obtain ⟨x, ρ1, e1, q⟩ := h
  exact ⟨_, ρ1, by simp [sRet, e1], q⟩
theorem wp_retN (q : QS (.rt (.val .none)) ρ) : Wp sRetN ρ QS := ⟨_, _, rfl, q⟩
theorem wp_if (h : Wp t ρ fun x ρ1 => (x = true → Wp s1 ρ1 QS) ∧ (x = false → Wp s2 ρ1 QS)) : Wp (sIf t s1 s2) ρ QS := by
  obtain ⟨x, ρ1, e1, h1, h2⟩ := h
  cases x with
  | true => obtain ⟨y, ρ2, e2, q⟩ := h1 rfl; exact ⟨y, ρ2, by simp [sIf, e1, e2], q⟩
  | false => obtain ⟨y, ρ2, e2, q⟩ := h2 rfl; exact ⟨y, ρ2, by simp [sIf, e1, e2], q⟩
theorem wp_expr (h : Wp a ρ fun _ ρ1 => QS .nx ρ1) : Wp (sExpr a) ρ QS := by
  obtain ⟨x, ρ1, e1, q⟩ := h
  exact ⟨_, ρ1, by simp [sExpr, e1], q⟩
def PutQ (m : MG) (x : R) (ρ : Env) (Q : Env → Prop) : Prop := ∃ ρ', m x ρ = some ρ' ∧ Q ρ'
theorem wp_asg {m : MG} (h : Wp a ρ fun x ρ1 => PutQ m x ρ1 fun ρ2 => QS .nx ρ2) : Wp (sAsg a m) ρ QS := by
  obtain ⟨x, ρ1, e1, ρ2, e2, q⟩ := h
  exact ⟨_, ρ2, by simp [sAsg, e1, e2], q⟩
theorem wp_par (h : Wp a ρ fun x ρ1 => FrzQ x ρ1 fun v ρ2 => Wp b ρ2 fun y ρ3 => FrzQ y ρ3 fun w ρ4 => ∃ ρ5 ρ6, put i (some (.val v)) ρ4 = some ρ5 ∧ put j (some (.val w)) ρ5 = some ρ6 ∧ QS .nx ρ6) : Wp (sPar i j a b) ρ QS := by
  obtain ⟨x, ρ1, e1, v, ρ2, e2, y, ρ3, e3, w, ρ4, e4, ρ5, ρ6, e5, e6, q⟩ := h
  exact ⟨_, ρ6, by simp [sPar, e1, e2, e3, e4, e5, e6], q⟩
theorem wp_append {xs : List PV} (h0 : lstAt ρ i = some xs) (h : Wp a ρ fun x ρ1 => FrzQ x ρ1 fun v ρ2 => ∃ xs, lstAt ρ2 i = some xs ∧ xs.length < line ∧ Q (.val .none) (setOb ρ2 i (.lst (xs ++ [v])))) : Wp (mAppend i a) ρ Q := by
  obtain ⟨x, ρ1, e1, v, ρ2, e2, ys, e3, hz, q⟩ := h
  exact ⟨_, _, by simp [mAppend, h0, e1, e2, e3, hz], q⟩
theorem wp_pop {xs : List PV} (h0 : lstAt ρ i = some xs) (h1 : xs.getLast? = some v) (q : Q (.val v) (setOb ρ i (.lst xs.dropLast))) : Wp (mPop i) ρ Q := ⟨_, _, by simp [mPop, h0, h1], q⟩
theorem wp_reverse {xs : List PV} (h0 : lstAt ρ i = some xs) (q : Q (.val .none) (setOb ρ i (.lst xs.reverse))) : Wp (mReverse i) ρ Q := ⟨_, _, by simp [mReverse, h0], q⟩
theorem wp_setIx (h : Wp a ρ fun x ρ1 => FrzQ x ρ1 fun v ρ2 => ∃ ys, lstAt ρ2 i = some ys ∧ Wp b ρ2 fun y ρ3 => ∃ k xs j, look y ρ3 = some (.pv (.int k)) ∧ lstAt ρ3 i = some xs ∧ ixN xs.length k = some j ∧ QS .nx (setOb ρ3 i (.lst (xs.set j v)))) : Wp (sSetIx i b a) ρ QS := by
  obtain ⟨x, ρ1, e1, v, ρ2, e2, ys, e0, y, ρ3, e3, k, xs, j, e4, e5, e6, q⟩ := h
  exact ⟨_, _, by simp [sSetIx, e1, e2, e0, e3, e4, e5, e6, intOf], q⟩
theorem wp_fgt {is : List Nat} (h : Wp s ρ fun f ρ1 => match f with | .rt r => QS (.rt r) ρ1 | f => QS f (forget is ρ1)) : Wp (sFgt is s) ρ QS := by
  obtain ⟨f, ρ1, e1, q⟩ := h
  cases f <;> exact ⟨_, _, by simp only [sFgt, e1, Option.map_some], q⟩
/-! calls -/
theorem wp_anil (q : QA [] ρ) : Wp (agsEval []) ρ QA := ⟨_, _, rfl, q⟩
theorem wp_av {r : List Ag} (h : Wp a ρ fun x ρ1 => FrzQ x ρ1 fun v ρ2 => Wp (agsEval r) ρ2 fun z ρ3 => QA (.val v :: z) ρ3) : Wp (agsEval (.v a :: r)) ρ QA := by
  obtain ⟨x, ρ1, e1, v, ρ2, e2, z, ρ3, e3, q⟩ := h
  exact ⟨_, ρ3, by simp [agsEval, e1, e2, e3], q⟩
theorem wp_ar {r : List Ag} {o : Ob} (h0 : obAt ρ i = some o) (h : Wp (agsEval r) ρ fun z ρ1 => ∃ o, obAt ρ1 i = some o ∧ QA (.ref o :: z) ρ1) : Wp (agsEval (.r i :: r)) ρ QA := by
  obtain ⟨z, ρ1, e1, o', e2, q⟩ := h
  exact ⟨_, ρ1, by simp [agsEval, h0, e1, e2], q⟩
theorem wp_call {ags : List Ag} (nd : (refsOf ags).Nodup) (h : Wp (agsEval ags) ρ fun ss ρ1 => Ret d ss fun r os => Q r (setObs (refsOf ags) os ρ1)) : Wp (mCall d ags) ρ Q := by
  obtain ⟨ss, ρ1, e1, r, os, e2, q⟩ := h
  exact ⟨r, _, by simp [mCall, e1, e2, nd], q⟩
/-! loops -/
/-- what is wanted behind a turn -/
def TurnQ (N : Env → Prop) (Q : Fl → Env → Prop) (f : Fl) (ρ : Env) : Prop := match f with
  | .nx => N ρ
  | .ct => N ρ
  | .bk => Q .nx ρ
  | .rt r => Q (.rt r) ρ
theorem wp_for {it : MI} {m : MG} (h : Wp it ρ fun xs ρ1 => Wp (loopF m s xs) ρ1 QS) : Wp (sFor it m s) ρ QS := by
  obtain ⟨xs, ρ1, e1, f, ρ2, e2, q⟩ := h
  exact ⟨f, ρ2, by simp [sFor, e1, e2], q⟩
/-- a loop by its invariant: P, of the items gone through -/
theorem wp_loop {α : Type} {m : MG} (fn : α → PV) (P : List α → Env → Prop) (ys : List α) (h0 : P [] ρ)
    (step : ∀ done y rest ρ, ys = done ++ y :: rest → P done ρ → PutQ m (.val (fn y)) ρ fun ρ1 => Wp s ρ1 (TurnQ (P (done ++ [y])) QS)) (hd : ∀ ρ, P ys ρ → QS .nx ρ) : Wp (loopF m s (ys.map fn)) ρ QS := by
  have key : ∀ (rest done : List α) (ρ : Env), ys = done ++ rest → P done ρ → Wp (loopF m s (rest.map fn)) ρ QS := by
    intro rest
    induction rest with
    | nil =>
      intro done ρ e p
      rw [List.append_nil] at e
      subst e
      exact ⟨_, _, rfl, hd ρ p⟩
    | cons y rest ih =>
      intro done ρ e p
      obtain ⟨ρ1, e1, f, ρ2, e2, q⟩ := step done y rest ρ e p
      have e' : ys = (done ++ [y]) ++ rest := by rw [e]; simp
      cases f with
      | nx => obtain ⟨f', ρ3, e3, q⟩ := ih _ ρ2 e' q; exact ⟨f', ρ3, by simp [loopF, e1, e2, e3], q⟩
      | ct => obtain ⟨f', ρ3, e3, q⟩ := ih _ ρ2 e' q; exact ⟨f', ρ3, by simp [loopF, e1, e2, e3], q⟩
      | bk => exact ⟨_, ρ2, by simp [loopF, e1, e2], q⟩
      | rt r => exact ⟨_, ρ2, by simp [loopF, e1, e2], q⟩
  exact key ys [] ρ rfl h0
theorem wp_seqI (h : Wp a ρ fun x ρ1 => ∃ xs, (x = .val (.list xs) ∨ x = .val (.tuple xs) ∨ x = .new (.lst xs)) ∧ QL xs ρ1) : Wp (iSeq a) ρ QL := by
  obtain ⟨x, ρ1, e1, xs, h, q⟩ := h
  rcases h with rfl | rfl | rfl <;> exact ⟨xs, ρ1, by simp [iSeq, e1], q⟩
theorem wp_rng1 (h : Wp a ρ fun x ρ1 => ∃ n, look x ρ1 = some (.pv (.int n)) ∧ (n ≤ line ∧ -(2 ^ 62) ≤ n) ∧ QL ((List.range n.toNat).map fun (k : Nat) => .int (k : Int)) ρ1) : Wp (iRng1 a) ρ QL := by
  obtain ⟨x, ρ1, e1, n, e2, hz, q⟩ := h
  refine ⟨rangeL 0 n.toNat, ρ1, by simp only [iRng1, e1, e2, intOf, Option.bind_some, if_pos hz], ?_⟩
  unfold rangeL
  simpa using q
theorem wp_rng2 (h : Wp a ρ fun x ρ1 => ∃ lo, look x ρ1 = some (.pv (.int lo)) ∧ Wp b ρ1 fun y ρ2 => ∃ hi, look y ρ2 = some (.pv (.int hi)) ∧ (-(2 ^ 61) ≤ lo ∧ lo < 2 ^ 61 ∧ -(2 ^ 61) ≤ hi ∧ hi < 2 ^ 61 ∧ (hi - lo) ≤ line) ∧ QL ((List.range (hi - lo).toNat).map fun (k : Nat) => .int (lo + (k : Int))) ρ2) : Wp (iRng2 a b) ρ QL := by
  obtain ⟨x, ρ1, e1, lo, e2, y, ρ2, e3, hi, e4, hz, q⟩ := h
  exact ⟨rangeL lo (hi - lo).toNat, ρ2, by simp only [iRng2, e1, e2, e3, e4, intOf, Option.bind_some, if_pos hz], q⟩
theorem whileF_mono {n : Nat} {x : Fl × Env} : ∀ {ρ : Env}, whileF t s n ρ = some x → ∀ k, whileF t s (n + k) ρ = some x := by
  induction n with
  | zero => intro ρ h; cases h
  | succ n ih =>
    intro ρ h k
    rw [Nat.add_right_comm]
    simp only [whileF, Option.bind_eq_some_iff] at h ⊢
    obtain ⟨⟨b, ρ1⟩, e1, h⟩ := h
    refine ⟨(b, ρ1), e1, ?_⟩
    cases b with
    | false => simpa using h
    | true =>
      simp only [if_true, Option.bind_eq_some_iff] at h ⊢
      obtain ⟨⟨f, ρ2⟩, e2, h⟩ := h
      refine ⟨(f, ρ2), e2, ?_⟩
      cases f with
      | nx => exact ih h k
      | ct => exact ih h k
      | bk => exact h
      | rt r => exact h
theorem while_of {n : Nat} {x : Fl × Env} (h : whileF t s n ρ = some x) : sWhile t s ρ = some x := by
  have ex : ∃ n, (whileF t s n ρ).isSome = true := ⟨n, by rw [h]; rfl⟩
  unfold sWhile
  rw [dif_pos ex]
  obtain ⟨y, hy⟩ := Option.isSome_iff_exists.mp ex.choose_spec
  have h1 := whileF_mono h ex.choose
  have h2 := whileF_mono hy n
  rw [Nat.add_comm] at h2
  rw [h1] at h2
  rw [hy, h2]
/-- a while by its invariant P and a measure -/
theorem wp_while {β : Type} (P : β → Env → Prop) (μ : β → Nat) (x0 : β) (h0 : P x0 ρ)
    (step : ∀ x ρ, P x ρ → Wp t ρ fun b ρ1 => (b = true → Wp s ρ1 (TurnQ (fun ρ2 => ∃ x', μ x' < μ x ∧ P x' ρ2) QS)) ∧ (b = false → QS .nx ρ1)) : Wp (sWhile t s) ρ QS := by
  have key : ∀ (n : Nat) (x : β) (ρ : Env), μ x < n → P x ρ → ∃ f ρ', whileF t s n ρ = some (f, ρ') ∧ QS f ρ' := by
    intro n
    induction n with
    | zero => intro x ρ h; omega
    | succ n ih =>
      intro x ρ hn p
      obtain ⟨b, ρ1, e1, h1, h2⟩ := step x ρ p
      cases b with
      | false => exact ⟨_, ρ1, by simp [whileF, e1], h2 rfl⟩
      | true =>
        obtain ⟨f, ρ2, e2, q⟩ := h1 rfl
        cases f with
        | nx => obtain ⟨x', l, p'⟩ := q; obtain ⟨f', ρ3, e3, q⟩ := ih x' ρ2 (by omega) p'; exact ⟨f', ρ3, by simp [whileF, e1, e2, e3], q⟩
        | ct => obtain ⟨x', l, p'⟩ := q; obtain ⟨f', ρ3, e3, q⟩ := ih x' ρ2 (by omega) p'; exact ⟨f', ρ3, by simp [whileF, e1, e2, e3], q⟩
        | bk => exact ⟨_, ρ2, by simp [whileF, e1, e2], q⟩
        | rt r => exact ⟨_, ρ2, by simp [whileF, e1, e2], q⟩
  obtain ⟨f, ρ', e, q⟩ := key (μ x0 + 1) x0 ρ (Nat.lt_succ_self _) h0
  exact ⟨f, ρ', while_of e, q⟩
/-! comprehensions -/
/-- a turn: the new list's next items ys -/
def LcQ (g : MG) (vs : List Nat) (t : MT) (e : M) (x : PV) (ρ : Env) (Q : List PV → Env → Prop) : Prop :=
  PutQ g (.val x) (wipe ρ vs) fun ρ1 => Wp t ρ1 fun b ρ2 => (b = true → Wp e ρ2 fun r ρ3 => FrzQ r ρ3 fun v ρ4 => Q [v] ρ4) ∧ (b = false → Q [] ρ2)
theorem wp_lc {α : Type} {it : MI} {g : MG} {vs : List Nat} {e : M} (fn : α → PV) (P : List α → List PV → Env → Prop)
    (h : Wp it ρ fun xs ρ1 => ∃ ys : List α, xs = ys.map fn ∧ ys.length ≤ line ∧ P [] [] ρ1 ∧ (∀ done y rest acc ρ, ys = done ++ y :: rest → P done acc ρ → LcQ g vs t e (fn y) ρ fun zs ρ2 => P (done ++ [y]) (acc ++ zs) ρ2) ∧ ∀ acc ρ, P ys acc ρ → Q (.new (.lst acc)) (back ρ1 vs ρ)) :
    Wp (mLc it g vs t e) ρ Q := by
  obtain ⟨xs, ρ1, e1, ys, rfl, hz, h0, step, hd⟩ := h
  have key : ∀ (rest done : List α) (acc : List PV) (ρ : Env), ys = done ++ rest → P done acc ρ → ∃ zs ρ', lcF (lcTurn g vs t e) (rest.map fn) ρ = some (zs, ρ') ∧ P ys (acc ++ zs) ρ' := by
    intro rest
    induction rest with
    | nil =>
      intro done acc ρ e p
      rw [List.append_nil] at e
      subst e
      exact ⟨[], ρ, rfl, by simpa using p⟩
    | cons y rest ih =>
      intro done acc ρ e p
      obtain ⟨ρ2, e2, b, ρ3, e3, h1, h2⟩ := step done y rest acc ρ e p
      have e' : ys = (done ++ [y]) ++ rest := by rw [e]; simp
      cases b with
      | true =>
        obtain ⟨r, ρ4, e4, v, ρ5, e5, q⟩ := h1 rfl
        obtain ⟨zs, ρ', e6, p'⟩ := ih _ _ ρ5 e' q
        exact ⟨v :: zs, ρ', by simp [lcF, lcTurn, e2, e3, e4, e5, e6], by simpa using p'⟩
      | false =>
        obtain ⟨zs, ρ', e6, p'⟩ := ih _ _ ρ3 e' (h2 rfl)
        exact ⟨zs, ρ', by simp [lcF, lcTurn, e2, e3, e6], by simpa using p'⟩
  obtain ⟨zs, ρ', e6, p'⟩ := key ys [] [] ρ1 rfl h0
  exact ⟨.new (.lst zs), back ρ1 vs ρ', by simp only [mLc, e1, Option.bind_some, List.length_map, if_pos hz, e6, Option.map_some], hd _ _ (by simpa using p')⟩
end
/-! ### operators -/
section
variable {a b : Int}
theorem ev_mul (h : mulOk a b = true) : fMul (.pv (.int a)) (.pv (.int b)) = some (.val (.int (a * b))) := by simp [fMul, h]
theorem ev_div (h : b ≠ 0) : fDiv (.pv (.int a)) (.pv (.int b)) = some (.val (.int (a.fdiv b))) := by simp [fDiv, h]
theorem ev_mod (h : b ≠ 0) : fMod (.pv (.int a)) (.pv (.int b)) = some (.val (.int (a.fmod b))) := by simp [fMod, h]
theorem ev_ix {c : Ct} {xs : List PV} {v : PV} (hc : c = .pv (.tuple xs) ∨ c = .pv (.list xs) ∨ c = .ob (.lst xs)) (h : atI xs a = some v) : fIx c (.pv (.int a)) = some (.val v) := by
  rcases hc with rfl | rfl | rfl <;> simp [fIx, h]
theorem atI_nat {xs : List PV} {j : Nat} {v : PV} (h : xs[j]? = some v) : atI xs (j : Int) = some v := by
  have hj : j < xs.length := (List.getElem?_eq_some_iff.mp h).1
  have : ixN xs.length (j : Int) = some j := by unfold ixN; rw [if_pos (by omega), if_pos (by omega)]; simp
  unfold atI
  rw [this]
  exact h
end
end Py
/-! Q1: rules of reckoning over a written environment. -/
namespace Py
open PySem
theorem get_z (s : Option Sl) (ρ : Env) : get (s :: ρ) 0 = s := rfl
theorem get_s (s : Option Sl) (ρ : Env) (i : Nat) : get (s :: ρ) (i + 1) = get ρ i := rfl
theorem set_z (s t : Option Sl) (ρ : Env) : List.set (s :: ρ) 0 t = t :: ρ := rfl
theorem set_s (s t : Option Sl) (ρ : Env) (i : Nat) : List.set (s :: ρ) (i + 1) t = s :: List.set ρ i t := rfl
inductive PutR : Nat → Option Sl → Env → Env → Prop
  | z {a s : Option Sl} {ρ : Env} (h : isRef a = false) : PutR 0 s (a :: ρ) (s :: ρ)
  | s {a s : Option Sl} {i : Nat} {ρ ρ' : Env} (h : PutR i s ρ ρ') : PutR (i + 1) s (a :: ρ) (a :: ρ')
theorem PutR.put {i s ρ ρ'} (h : PutR i s ρ ρ') : put i s ρ = some ρ' := by
  have : isRef (get ρ i) = false ∧ ρ.set i s = ρ' := by
    induction h with
    | z h => exact ⟨h, rfl⟩
    | s _ ih => exact ⟨ih.1, by rw [List.set_cons_succ, ih.2]⟩
  simp [Py.put, this.1, this.2]
theorem putqV {i : Nat} {v : PV} {ρ ρ' : Env} {Q : Env → Prop} (h : PutR i (some (.val v)) ρ ρ') (q : Q ρ') : PutQ (gName i) (.val v) ρ Q := ⟨ρ', h.put, q⟩
theorem putqN {i : Nat} {o : Ob} {ρ ρ' : Env} {Q : Env → Prop} (h : PutR i (some (.own o)) ρ ρ') (q : Q ρ') : PutQ (gName i) (.new o) ρ Q := ⟨ρ', h.put, q⟩
theorem putq2 {i j : Nat} {v w : PV} {ρ ρ1 ρ2 : Env} {Q : Env → Prop} (h : PutR i (some (.val v)) ρ ρ1) (h2 : PutR j (some (.val w)) ρ1 ρ2) (q : Q ρ2) : PutQ (gTup [i, j]) (.val (.tuple [v, w])) ρ Q := ⟨ρ2, by simp [gTup, gNames, h.put, h2.put], q⟩
theorem unB {a : M} {ρ : Env} {QT : Bool → Env → Prop} (h : Wp a ρ fun x ρ1 => ∃ b, x = .val (.bool b) ∧ QT b ρ1) : Wp (mB a) ρ QT :=
  wp_B (h.mono fun x _ ⟨b, e, q⟩ => ⟨b, by rw [e]; rfl, q⟩)
theorem wp_truB {a : M} {ρ : Env} {QT : Bool → Env → Prop} (h : Wp a ρ fun x ρ1 => ∃ b, x = .val (.bool b) ∧ QT b ρ1) : Wp (mTru a) ρ QT :=
  wp_tru (h.mono fun x _ ⟨b, e, q⟩ => ⟨.pv (.bool b), b, by rw [e]; rfl, rfl, q⟩)
theorem turn_nx {N : Env → Prop} {Q : Fl → Env → Prop} {ρ : Env} (h : N ρ) : TurnQ N Q .nx ρ := h
theorem turn_rt {N : Env → Prop} {Q : Fl → Env → Prop} {ρ : Env} {r : R} (h : Q (.rt r) ρ) : TurnQ N Q (.rt r) ρ := h
theorem branchD {p : Prop} [Decidable p] {A B : Prop} (h1 : p → A) (h2 : ¬p → B) : (decide p = true → A) ∧ (decide p = false → B) := ⟨fun h => h1 (of_decide_eq_true h), fun h => h2 (of_decide_eq_false h)⟩
theorem brT {b : Bool} {A B : Prop} (e : b = true) (h1 : A) : (b = true → A) ∧ (b = false → B) := ⟨fun _ => h1, fun h => (by rw [e] at h; cases h)⟩
theorem brF {b : Bool} {A B : Prop} (e : b = false) (h1 : B) : (b = true → A) ∧ (b = false → B) := ⟨fun h => (by rw [e] at h; cases h), fun _ => h1⟩
theorem ev_ltI {a b : Int} : fLt (.pv (.int a)) (.pv (.int b)) = some (.val (.bool (decide (a < b)))) := rfl
theorem ev_leI {a b : Int} : fLe (.pv (.int a)) (.pv (.int b)) = some (.val (.bool (decide (a ≤ b)))) := rfl
theorem ev_gtI {a b : Int} : fGt (.pv (.int a)) (.pv (.int b)) = some (.val (.bool (decide (b < a)))) := rfl
theorem ev_geI {a b : Int} : fGe (.pv (.int a)) (.pv (.int b)) = some (.val (.bool (decide (b ≤ a)))) := rfl
theorem ev_eqI {a b : Int} : fEq (.pv (.int a)) (.pv (.int b)) = some (.val (.bool (decide (a = b)))) := by simp [fEq, eqD]
theorem ev_neI {a b : Int} : fNe (.pv (.int a)) (.pv (.int b)) = some (.val (.bool (!decide (a = b)))) := by simp [fNe, eqD]

inductive StartR : Nat → List Sl → Env → Prop
  | z : StartR 0 [] []
  | p {n : Nat} {ρ : Env} (h : StartR n [] ρ) : StartR (n + 1) [] (none :: ρ)
  | a {n : Nat} {s : Sl} {as : List Sl} {ρ : Env} (h : StartR n as ρ) : StartR (n + 1) (s :: as) (some s :: ρ)
theorem StartR.eq {n as ρ} (h : StartR n as ρ) : startE n as = ρ := by
  induction h with
  | z => rfl
  | p _ ih => simp [startE] at ih ⊢; rw [List.replicate_succ, ih]
  | a _ ih => simp [startE] at ih ⊢; exact ih
theorem ret_mkR {n : Nat} {as : List Sl} {ρ : Env} {body : SM} {QR : R → List Ob → Prop} (h0 : StartR n as ρ) (h : Wp body ρ fun f ρ' => FinQ as f ρ' QR) : Ret (mkDen n body) as QR := ret_mk (h0.eq ▸ h)
/-- the objects behind a call -/
inductive SetR : Env → Nat → Ob → Env → Prop
  | o {ρ : Env} {o o' : Ob} : SetR (some (.own o) :: ρ) 0 o' (some (.own o') :: ρ)
  | r {ρ : Env} {o o' : Ob} : SetR (some (.ref o) :: ρ) 0 o' (some (.ref o') :: ρ)
  | s {a : Option Sl} {ρ ρ' : Env} {i : Nat} {o : Ob} (h : SetR ρ i o ρ') : SetR (a :: ρ) (i + 1) o (a :: ρ')
theorem SetR.eq {ρ i o ρ'} (h : SetR ρ i o ρ') : setOb ρ i o = ρ' := by
  induction h with
  | o => rfl
  | r => rfl
  | @s a ρ ρ' i o h ih =>
    rw [← ih]
    unfold setOb
    rw [get_s]
    split <;> rfl
theorem wp_popR {ρ ρ' : Env} {i : Nat} {v : PV} {Q : R → Env → Prop} {xs : List PV} (h0 : lstAt ρ i = some xs) (h1 : xs.getLast? = some v) (h2 : SetR ρ i (.lst xs.dropLast) ρ') (q : Q (.val v) ρ') : Wp (mPop i) ρ Q := wp_pop h0 h1 (h2.eq ▸ q)
def AppQ (i : Nat) (v : PV) (ρ : Env) (Q : R → Env → Prop) : Prop := ∃ xs ρ3, lstAt ρ i = some xs ∧ xs.length < line ∧ SetR ρ i (.lst (xs ++ [v])) ρ3 ∧ Q (.val .none) ρ3
theorem wp_appendR {a : M} {ρ : Env} {i : Nat} {Q : R → Env → Prop} {xs : List PV} (h0 : lstAt ρ i = some xs) (h : Wp a ρ fun x ρ1 => FrzQ x ρ1 fun v ρ2 => AppQ i v ρ2 Q) : Wp (mAppend i a) ρ Q := by
  refine wp_append h0 (h.mono fun x ρ1 ⟨v, ρ2, e, xs, ρ3, h1, h2, h3, q⟩ => ⟨v, ρ2, e, xs, h1, h2, ?_⟩)
  rw [h3.eq]; exact q
/-- a call with one object -/
def CallQ (is : List Nat) (r : R) (os : List Ob) (ρ : Env) (Q : R → Env → Prop) : Prop := Q r (setObs is os ρ)
theorem callq0 {r : R} {ρ : Env} {Q : R → Env → Prop} (q : Q r ρ) : CallQ [] r [] ρ Q := q
theorem callq1 {i : Nat} {o : Ob} {r : R} {ρ ρ' : Env} {Q : R → Env → Prop} (h : SetR ρ i o ρ') (q : Q r ρ') : CallQ [i] r [o] ρ Q := by
  show Q r (setOb ρ i o)
  rw [h.eq]; exact q
theorem callq2 {i j : Nat} {o p : Ob} {r : R} {ρ ρ1 ρ2 : Env} {Q : R → Env → Prop} (h : SetR ρ i o ρ1) (h2 : SetR ρ1 j p ρ2) (q : Q r ρ2) : CallQ [i, j] r [o, p] ρ Q := by
  show Q r (setOb (setOb ρ i o) j p)
  rw [h.eq, h2.eq]; exact q
inductive RefsR : List Ag → List Nat → Prop
  | nil : RefsR [] []
  | v {a : M} {r : List Ag} {is : List Nat} (h : RefsR r is) : RefsR (.v a :: r) is
  | r {i : Nat} {r : List Ag} {is : List Nat} (h : RefsR r is) : RefsR (.r i :: r) (i :: is)
theorem RefsR.eq {ags is} (h : RefsR ags is) : refsOf ags = is := by
  induction h with
  | nil => rfl
  | v _ ih => exact ih
  | r _ ih => exact congrArg _ ih
theorem wp_callR {d : Den} {ags : List Ag} {is : List Nat} {ρ : Env} {Q : R → Env → Prop} (e' : RefsR ags is) (nd : is.Nodup) (h : Wp (agsEval ags) ρ fun ss ρ1 => Ret d ss fun r os => CallQ is r os ρ1 Q) : Wp (mCall d ags) ρ Q := by
  have e := e'.eq
  subst e; exact wp_call nd h
/-- names forgotten -/
inductive FgtR : Nat → Env → Env → Prop
  | z {a : Option Sl} {ρ : Env} (h : isRef a = false) : FgtR 0 (a :: ρ) (none :: ρ)
  | k {o : Ob} {ρ : Env} : FgtR 0 (some (.ref o) :: ρ) (some (.ref o) :: ρ)
  | s {a : Option Sl} {i : Nat} {ρ ρ' : Env} (h : FgtR i ρ ρ') : FgtR (i + 1) (a :: ρ) (a :: ρ')
theorem FgtR.eq {i ρ ρ'} (h : FgtR i ρ ρ') : (if isRef (get ρ i) then ρ else ρ.set i none) = ρ' := by
  induction h with
  | z h => simp [get_z, h]
  | k => rfl
  | @s a i ρ ρ' h ih =>
    rw [get_s, set_s, ← ih]
    split <;> rfl
inductive FgtsR : List Nat → Env → Env → Prop
  | nil {ρ : Env} : FgtsR [] ρ ρ
  | cons {i : Nat} {r : List Nat} {ρ ρ1 ρ2 : Env} (h : FgtsR r ρ ρ1) (h2 : FgtR i ρ1 ρ2) : FgtsR (i :: r) ρ ρ2
theorem FgtsR.eq {is ρ ρ'} (h : FgtsR is ρ ρ') : forget is ρ = ρ' := by
  induction h with
  | nil => rfl
  | cons _ h2 ih => rw [← h2.eq, ← ih]; rfl
def FgtQ (is : List Nat) (QS : Fl → Env → Prop) (f : Fl) (ρ : Env) : Prop := match f with | .rt r => QS (.rt r) ρ | f => QS f (forget is ρ)
theorem wp_fgtR {is : List Nat} {s : SM} {ρ : Env} {QS : Fl → Env → Prop} (h : Wp s ρ (FgtQ is QS)) : Wp (sFgt is s) ρ QS := wp_fgt h
section
variable {is : List Nat} {ρ ρ' : Env} {QS : Fl → Env → Prop} {r : R}
theorem fgt_nx (h : FgtsR is ρ ρ') (q : QS .nx ρ') : FgtQ is QS .nx ρ := by show QS .nx (forget is ρ); rw [h.eq]; exact q
theorem fgt_bk (h : FgtsR is ρ ρ') (q : QS .bk ρ') : FgtQ is QS .bk ρ := by show QS .bk (forget is ρ); rw [h.eq]; exact q
theorem fgt_ct (h : FgtsR is ρ ρ') (q : QS .ct ρ') : FgtQ is QS .ct ρ := by show QS .ct (forget is ρ); rw [h.eq]; exact q
theorem fgt_rt (q : QS (.rt r) ρ) : FgtQ is QS (.rt r) ρ := q
theorem turn_ct {N : Env → Prop} {Q : Fl → Env → Prop} (h : N ρ) : TurnQ N Q .ct ρ := h
theorem turn_bk {N : Env → Prop} {Q : Fl → Env → Prop} (h : Q .nx ρ) : TurnQ N Q .bk ρ := h
end
/-- a loop over a row of values, by how many are gone through -/
theorem wp_loopK {m : MG} {s : SM} {ρ : Env} {QS : Fl → Env → Prop} {xs : List PV} (P : Nat → Env → Prop) (h0 : P 0 ρ)
    (step : ∀ k (hk : k < xs.length) ρ, P k ρ → PutQ m (.val xs[k]) ρ fun ρ1 => Wp s ρ1 (TurnQ (P (k + 1)) QS)) (hd : ∀ ρ, P xs.length ρ → QS .nx ρ) : Wp (loopF m s xs) ρ QS := by
  have := wp_loop (m := m) (s := s) (QS := QS) (ρ := ρ) (fun x : PV => x) (fun done ρ => P done.length ρ) xs h0 (fun done y rest ρ e p => ?_) hd
  · rwa [List.map_id''] at this; intro; rfl
  · have hk : done.length < xs.length := by rw [e]; simp
    have hy : xs[done.length] = y := by simp [e]
    have h := step done.length hk ρ p
    rw [hy] at h
    simpa using h
theorem wp_forN {a : M} {m : MG} {s : SM} {ρ : Env} {QS : Fl → Env → Prop} (P : Nat → Env → Prop) (n : Nat)
    (h : Wp a ρ fun x ρ1 => look x ρ1 = some (.pv (.int n)) ∧ n ≤ line ∧ P 0 ρ1) (step : ∀ k ρ, k < n → P k ρ → PutQ m (.val (.int k)) ρ fun ρ1 => Wp s ρ1 (TurnQ (P (k + 1)) QS)) (hd : ∀ ρ, P n ρ → QS .nx ρ) : Wp (sFor (iRng1 a) m s) ρ QS := by
  refine wp_for (wp_rng1 (h.mono fun x ρ1 ⟨e, hz, h0⟩ => ⟨n, e, ⟨by exact_mod_cast hz, by omega⟩, ?_⟩))
  refine wp_loopK P h0 (fun k hk ρ p => ?_) (fun ρ p => hd ρ ?_)
  · simp at hk
    simpa using step k ρ hk p
  · simpa using p
theorem wp_forL {it : M} {m : MG} {s : SM} {ρ : Env} {QS : Fl → Env → Prop} (P : Nat → Env → Prop)  (xs : List PV)
    (h : Wp it ρ fun x ρ1 => (x = .val (.list xs) ∨ x = .val (.tuple xs) ∨ x = .new (.lst xs)) ∧ P 0 ρ1) (step : ∀ k (hk : k < xs.length) ρ, P k ρ → PutQ m (.val xs[k]) ρ fun ρ1 => Wp s ρ1 (TurnQ (P (k + 1)) QS)) (hd : ∀ ρ, P xs.length ρ → QS .nx ρ) : Wp (sFor (iSeq it) m s) ρ QS := by
  refine wp_for (wp_seqI (h.mono fun x ρ1 ⟨e, h0⟩ => ⟨xs, e, ?_⟩))
  exact wp_loopK P h0 step hd
theorem mulOk_of {a b : Int} (m n : Nat) (ha : a.natAbs < 2 ^ m) (hb : b.natAbs < 2 ^ n) (h : m + n < 100000000 := by decide) : mulOk a b = true := by
  have h1 : a.natAbs.log2 ≤ m := by
    by_cases h0 : a.natAbs = 0
    · rw [h0]; simp
    · exact Nat.le_of_lt ((Nat.log2_lt h0).mpr ha)
  have h2 : b.natAbs.log2 ≤ n := by
    by_cases h0 : b.natAbs = 0
    · rw [h0]; simp
    · exact Nat.le_of_lt ((Nat.log2_lt h0).mpr hb)
  unfold mulOk
  exact decide_eq_true (by omega)
theorem parq {i j : Nat} {v w : PV} {ρ ρ1 ρ2 : Env} {Q : Env → Prop} (h : PutR i (some (.val v)) ρ ρ1) (h2 : PutR j (some (.val w)) ρ1 ρ2) (q : Q ρ2) : ∃ ρ5 ρ6, put i (some (.val v)) ρ = some ρ5 ∧ put j (some (.val w)) ρ5 = some ρ6 ∧ Q ρ6 := ⟨ρ1, ρ2, h.put, h2.put, q⟩
theorem ixN_nat {n j : Nat} (h : j < n) : ixN n (j : Int) = some j := by
  unfold ixN
  rw [if_pos (by omega), if_pos (by omega)]
  simp
def IxQ (i : Nat) (v : PV) (y : R) (ρ : Env) (Q : Env → Prop) : Prop := ∃ k xs j ρ4, look y ρ = some (.pv (.int k)) ∧ lstAt ρ i = some xs ∧ ixN xs.length k = some j ∧ SetR ρ i (.lst (xs.set j v)) ρ4 ∧ Q ρ4
theorem ixq {i j : Nat} {v : PV} {y : R} {ρ ρ4 : Env} {Q : Env → Prop} {xs : List PV} (h1 : look y ρ = some (.pv (.int (j : Int)))) (h2 : lstAt ρ i = some xs) (h3 : j < xs.length) (h4 : SetR ρ i (.lst (xs.set j v)) ρ4) (q : Q ρ4) : IxQ i v y ρ Q := ⟨_, _, _, _, h1, h2, ixN_nat h3, h4, q⟩
theorem wp_setIxR {a b : M} {ρ : Env} {i : Nat} {QS : Fl → Env → Prop} (h : Wp a ρ fun x ρ1 => FrzQ x ρ1 fun v ρ2 => ∃ ys, lstAt ρ2 i = some ys ∧ Wp b ρ2 fun y ρ3 => IxQ i v y ρ3 fun ρ4 => QS .nx ρ4) : Wp (sSetIx i b a) ρ QS := by
  refine wp_setIx (h.mono fun x ρ1 ⟨v, ρ2, e, ys, h1, h2⟩ => ⟨v, ρ2, e, ys, h1, h2.mono fun y ρ3 ⟨k, xs, j, ρ4, h3, h4, h5, h6, q⟩ => ⟨k, xs, j, h3, h4, h5, ?_⟩⟩)
  rw [h6.eq]; exact q
theorem wp_reverseR {ρ ρ' : Env} {i : Nat} {Q : R → Env → Prop} {xs : List PV} (h0 : lstAt ρ i = some xs) (h2 : SetR ρ i (.lst xs.reverse) ρ') (q : Q (.val .none) ρ') : Wp (mReverse i) ρ Q := wp_reverse h0 (h2.eq ▸ q)
/-- a comprehension over a list, no test -/
def ElQ (e : M) (ρ : Env) (Q : PV → Env → Prop) : Prop := Wp e ρ fun r ρ3 => FrzQ r ρ3 Q
theorem appq {ρ ρ3 : Env} {i : Nat} {xs : List PV} {v : PV} {Q : R → Env → Prop} (h1 : lstAt ρ i = some xs) (h2 : xs.length < line) (h3 : SetR ρ i (.lst (xs ++ [v])) ρ3) (q : Q (.val .none) ρ3) : AppQ i v ρ Q := ⟨xs, ρ3, h1, h2, h3, q⟩
theorem fmod_ix (i : Int) {n : Nat} (h : 0 < n) : ∃ j : Nat, i.fmod n = j ∧ j < n := by
  have h1 := Int.fmod_nonneg_of_pos i (b := n) (by omega)
  have h2 := Int.fmod_lt_of_pos i (b := n) (by omega)
  obtain ⟨j, hj⟩ := Int.eq_ofNat_of_zero_le h1
  exact ⟨j, hj, by omega⟩
/-- what holds behind a statement -/
theorem wp_mid {s s2 : SM} {ρ : Env} {QS : Fl → Env → Prop} (P : Env → Prop) (h1 : Wp s ρ fun f ρ' => f = Fl.nx ∧ P ρ') (h2 : ∀ ρ', P ρ' → Wp s2 ρ' QS) : Wp s ρ (SeqQ s2 QS) :=
  h1.mono fun f ρ' ⟨e, q⟩ => by rw [e]; exact h2 ρ' q
theorem mulB {a b : Int} {m n : Nat} (ha : Builtin.Int.intBits a ≤ m) (hb : Builtin.Int.intBits b ≤ n) (h : m + n < 100000000 := by decide) : mulOk a b = true :=
  mulOk_of m n (intBits_le_iff.mp ha) (intBits_le_iff.mp hb) h
theorem frzB {i : Nat} {o : Ob} {v : PV} {ρ ρ' : Env} {Q : PV → Env → Prop} (h : get ρ i = some (.own o)) (h2 : frzO o = some v) (h3 : PutR i (some (.val v)) ρ ρ') (q : Q v ρ') : FrzQ (.bor i) ρ Q := by
  refine ⟨v, ρ', ?_, q⟩
  have : isRef (get ρ i) = false ∧ ρ.set i (some (.val v)) = ρ' := by
    have e := h3.put
    simp only [put, h, isRef, Bool.false_eq_true, if_false] at e
    rw [h]
    exact ⟨rfl, Option.some.inj e⟩
  simp [frz, h, h2, this.2]
abbrev sOf (s : String) : Str := PySem.Str.ofString s
theorem ev_strT {s : Str} : fEq (.pv (.str s)) (.pv (.str s)) = some (.val (.bool true)) := by simp [fEq, eqD]
theorem ev_strF {s t : Str} (h : s ≠ t) : fEq (.pv (.str s)) (.pv (.str t)) = some (.val (.bool false)) := by simp [fEq, eqD, h]
theorem n1 : sOf "not" ≠ sOf "is" := by decide
theorem n2 : sOf "all" ≠ sOf "is" := by decide
theorem n3 : sOf "any" ≠ sOf "is" := by decide
theorem n4 : sOf "all" ≠ sOf "not" := by decide
theorem n5 : sOf "any" ≠ sOf "not" := by decide
theorem n6 : sOf "any" ≠ sOf "all" := by decide
end Py
namespace D
open Py
noncomputable def b_divisor : SM :=
    (sRet (mOp fGcd (mVar 0) (mVar 1)))
noncomputable def d_divisor : Den := mkDen 2 b_divisor

noncomputable def b_fraction : SM :=
    (sSeq (sAsg (mCall d_divisor [.v (mVar 0), .v (mVar 1)]) (Py.gName 2))
    (sSeq (sIf (mB (mOp fLt (mVar 1) (mC (.int 0)))) (sAsg (mUn fNeg (mVar 2)) (Py.gName 2)) sNext)
    (sRet (mTup (lCons (mOp fDiv (mVar 0) (mVar 2)) (lCons (mOp fDiv (mVar 1) (mVar 2)) lNil))))))
noncomputable def d_fraction : Den := mkDen 3 b_fraction

noncomputable def b_plus : SM :=
    (sRet (mCall d_fraction [.v (mOp fAdd (mOp fMul (mOp fIx (mVar 0) (mC (.int 0))) (mOp fIx (mVar 1) (mC (.int 1)))) (mOp fMul (mOp fIx (mVar 1) (mC (.int 0))) (mOp fIx (mVar 0) (mC (.int 1))))), .v (mOp fMul (mOp fIx (mVar 0) (mC (.int 1))) (mOp fIx (mVar 1) (mC (.int 1))))]))
noncomputable def d_plus : Den := mkDen 2 b_plus

noncomputable def b_minus : SM :=
    (sRet (mCall d_fraction [.v (mOp fSub (mOp fMul (mOp fIx (mVar 0) (mC (.int 0))) (mOp fIx (mVar 1) (mC (.int 1)))) (mOp fMul (mOp fIx (mVar 1) (mC (.int 0))) (mOp fIx (mVar 0) (mC (.int 1))))), .v (mOp fMul (mOp fIx (mVar 0) (mC (.int 1))) (mOp fIx (mVar 1) (mC (.int 1))))]))
noncomputable def d_minus : Den := mkDen 2 b_minus

noncomputable def b_times : SM :=
    (sRet (mCall d_fraction [.v (mOp fMul (mOp fIx (mVar 0) (mC (.int 0))) (mOp fIx (mVar 1) (mC (.int 0)))), .v (mOp fMul (mOp fIx (mVar 0) (mC (.int 1))) (mOp fIx (mVar 1) (mC (.int 1))))]))
noncomputable def d_times : Den := mkDen 2 b_times

noncomputable def b_is_less : SM :=
    (sRet (mOp fLt (mOp fMul (mOp fIx (mVar 0) (mC (.int 0))) (mOp fIx (mVar 1) (mC (.int 1)))) (mOp fMul (mOp fIx (mVar 1) (mC (.int 0))) (mOp fIx (mVar 0) (mC (.int 1))))))
noncomputable def d_is_less : Den := mkDen 2 b_is_less

noncomputable def e1_law_draws : M :=
    (mUn fInt (mVar 8))
noncomputable def l2_law_draws : SM :=
    (sFgt [5, 6, 7] (sSeq (sAsg (mOp fMod (mVar 5) (mUn fLen (mVar 2))) (Py.gName 6))
    (sIf (mB (mOp fGe (mOp fIx (mVar 2) (mVar 6)) (mOp fPow (mC (.int 10)) (mC (.int 18))))) (sSeq (sExpr (mAppend 4 (mOp fMod (mUn fInt (mOp fIx (mVar 3) (mVar 6))) (mC (.int 1000)))))
    (sSetIx 3 (mVar 6) (mOp fDiv (mOp fIx (mVar 3) (mVar 6)) (mC (.int 1000))))) (sSeq (sAsg (mOp fMod (mUn fInt (mOp fAdd (mOp fAdd (mOp fMul (mOp fIx (mVar 2) (mVar 6)) (mC (.int 48271))) (mOp fMul (mVar 5) (mC (.int 69621)))) (mC (.int 11)))) (mC (.int 2147483647))) (Py.gName 7))
    (sExpr (mAppend 4 (mOp fMod (mUn fInt (mOp fAdd (mOp fAdd (mOp fMul (mVar 7) (mVar 7)) (mOp fMul (mC (.int 3)) (mVar 7))) (mVar 5))) (mC (.int 1000003)))))))))
noncomputable def b_law_draws : SM :=
    (sSeq (sAsg (mLc (iSeq (mFrz (mVar 0))) (Py.gName 8) [8] tYes e1_law_draws) (Py.gName 2))
    (sSeq (sIf (mB (mOp fEq (mUn fLen (mVar 2)) (mC (.int 0)))) (sExpr (mAppend 2 (mC (.int 0)))) sNext)
    (sSeq (sAsg (mUn fList (mVar 2)) (Py.gName 3))
    (sSeq (sAsg (mLst lNil) (Py.gName 4))
    (sSeq (sFor (Py.iRng1 (mVar 1)) (Py.gName 5) l2_law_draws)
    (sSeq (sExpr (mReverse 4))
    (sRet (mVar 4))))))))
noncomputable def d_law_draws : Den := mkDen 9 b_law_draws

noncomputable def b_law_take : SM :=
    (sSeq (sIf (mB (mOp fEq (mUn fLen (mVar 0)) (mC (.int 0)))) (sRet (mC (.int 0))) sNext)
    (sRet (mOp fMod (mUn fInt (mPop 0)) (mVar 1))))
noncomputable def d_law_take : Den := mkDen 2 b_law_take

noncomputable def b_law_cell : SM :=
    (sSeq (sIf (mB (mOp fEq (mUn fLen (mVar 0)) (mC (.int 0)))) (sRet (mC (.int 0))) sNext)
    (sRet (mUn fInt (mOp fIx (mVar 0) (mOp fMod (mUn fInt (mVar 1)) (mUn fLen (mVar 0)))))))
noncomputable def d_law_cell : Den := mkDen 2 b_law_cell

noncomputable def b_law_huge : SM :=
    (sSeq (sAsg (mOp fIx (mLst (lCons (mC (.int 1)) (lCons (mOp fPow (mC (.int 10)) (mC (.int 3))) (lCons (mOp fPow (mC (.int 10)) (mC (.int 9))) (lCons (mOp fPow (mC (.int 10)) (mC (.int 15))) (lCons (mOp fPow (mC (.int 10)) (mC (.int 21))) (lCons (mOp fPow (mC (.int 10)) (mC (.int 27))) lNil))))))) (mCall d_law_take [.r 1, .v (mC (.int 6))])) (Py.gName 2))
    (sSeq (sAsg (mOp fAdd (mCall d_law_cell [.v (mVar 0), .v (mCall d_law_take [.r 1, .v (mC (.int 63))])]) (mOp fMul (mOp fAdd (mC (.int 1)) (mCall d_law_take [.r 1, .v (mC (.int 999))])) (mVar 2))) (Py.gName 3))
    (sRet (mOp fMod (mUn fInt (mVar 3)) (mOp fPow (mC (.int 10)) (mC (.int 30)))))))
noncomputable def d_law_huge : Den := mkDen 4 b_law_huge

noncomputable def l1_law_divisor : SM :=
    (sFgt [] (sPar 0 1 (mVar 1) (mOp fMod (mUn fInt (mVar 0)) (mVar 1))))
noncomputable def t2_law_divisor : MT :=
    (mB (mOp fNe (mVar 1) (mC (.int 0))))
noncomputable def b_law_divisor : SM :=
    (sSeq (sAsg (mUn fAbs (mVar 0)) (Py.gName 0))
    (sSeq (sAsg (mUn fAbs (mVar 1)) (Py.gName 1))
    (sSeq (sFgt [1] (sWhile t2_law_divisor l1_law_divisor))
    (sRet (mVar 0)))))
noncomputable def d_law_divisor : Den := mkDen 2 b_law_divisor

noncomputable def b_law_ratio : SM :=
    (sSeq (sAsg (mCall d_law_divisor [.v (mVar 0), .v (mVar 1)]) (Py.gName 2))
    (sSeq (sIf (mB (mOp fLt (mVar 1) (mC (.int 0)))) (sAsg (mUn fNeg (mVar 2)) (Py.gName 2)) sNext)
    (sRet (mTup (lCons (mOp fDiv (mVar 0) (mVar 2)) (lCons (mOp fDiv (mVar 1) (mVar 2)) lNil))))))
noncomputable def d_law_ratio : Den := mkDen 3 b_law_ratio

noncomputable def b_law_plus : SM :=
    (sRet (mCall d_law_ratio [.v (mOp fAdd (mOp fMul (mOp fIx (mVar 0) (mC (.int 0))) (mOp fIx (mVar 1) (mC (.int 1)))) (mOp fMul (mOp fIx (mVar 1) (mC (.int 0))) (mOp fIx (mVar 0) (mC (.int 1))))), .v (mOp fMul (mOp fIx (mVar 0) (mC (.int 1))) (mOp fIx (mVar 1) (mC (.int 1))))]))
noncomputable def d_law_plus : Den := mkDen 2 b_law_plus

noncomputable def b_law_minus : SM :=
    (sRet (mCall d_law_ratio [.v (mOp fSub (mOp fMul (mOp fIx (mVar 0) (mC (.int 0))) (mOp fIx (mVar 1) (mC (.int 1)))) (mOp fMul (mOp fIx (mVar 1) (mC (.int 0))) (mOp fIx (mVar 0) (mC (.int 1))))), .v (mOp fMul (mOp fIx (mVar 0) (mC (.int 1))) (mOp fIx (mVar 1) (mC (.int 1))))]))
noncomputable def d_law_minus : Den := mkDen 2 b_law_minus

noncomputable def b_law_times : SM :=
    (sRet (mCall d_law_ratio [.v (mOp fMul (mOp fIx (mVar 0) (mC (.int 0))) (mOp fIx (mVar 1) (mC (.int 0)))), .v (mOp fMul (mOp fIx (mVar 0) (mC (.int 1))) (mOp fIx (mVar 1) (mC (.int 1))))]))
noncomputable def d_law_times : Den := mkDen 2 b_law_times

noncomputable def b_law_less : SM :=
    (sRet (mOp fLt (mOp fMul (mOp fIx (mVar 0) (mC (.int 0))) (mOp fIx (mVar 1) (mC (.int 1)))) (mOp fMul (mOp fIx (mVar 1) (mC (.int 0))) (mOp fIx (mVar 0) (mC (.int 1))))))
noncomputable def d_law_less : Den := mkDen 2 b_law_less

noncomputable def l1_law_same (self : Den) : SM :=
    (sFgt [2] (sIf (mNot (mTru (mCall self [.v (mOp fIx (mVar 0) (mVar 2)), .v (mOp fIx (mVar 1) (mVar 2))]))) (sRet (mC (.bool false))) sNext))
noncomputable def b_law_same (self : Den) : SM :=
    (sSeq (sIf (mB (mOp (fIs false) (mVar 1) (mC .none))) (sRet (mOp (fIs false) (mVar 0) (mC .none))) sNext)
    (sSeq (sIf (mTru (mUn (fIsi .bool) (mVar 1))) (sRet (mAndV (mUn (fIsi .bool) (mVar 0)) (mOp fEq (mVar 0) (mVar 1)))) sNext)
    (sSeq (sIf (mTru (mUn (fIsi .int) (mVar 1))) (sRet (mAndV (mUn (fIsi .int) (mVar 0)) (mAndV (mNotV (mUn (fIsi .bool) (mVar 0))) (mOp fEq (mVar 0) (mVar 1))))) sNext)
    (sSeq (sIf (mTru (mUn (fIsi .str) (mVar 1))) (sRet (mAndV (mUn (fIsi .str) (mVar 0)) (mOp fEq (mVar 0) (mVar 1)))) sNext)
    (sSeq (sIf (mOr (mNot (mTru (mUn (fIsi .tuple) (mVar 0)))) (mB (mOp fNe (mUn fLen (mVar 0)) (mUn fLen (mVar 1))))) (sRet (mC (.bool false))) sNext)
    (sSeq (sFor (Py.iRng1 (mUn fLen (mVar 1))) (Py.gName 2) (l1_law_same self))
    (sRet (mC (.bool true)))))))))
noncomputable def d_law_same : Nat → Den
  | 0 => fun _ => none
  | n + 1 => mkDen 3 (b_law_same (d_law_same n))

noncomputable def b_law_drawn : SM :=
    (sSeq (sAsg (mCall d_law_take [.r 1, .v (mC (.int 16))]) (Py.gName 2))
    (sSeq (sAsg (mOp fSub (mCall d_law_take [.r 1, .v (mC (.int 13))]) (mC (.int 6))) (Py.gName 3))
    (sSeq (sAsg (mOp fAdd (mC (.int 1)) (mCall d_law_take [.r 1, .v (mC (.int 6))])) (Py.gName 4))
    (sSeq (sIf (mB (mOp fLt (mVar 2) (mC (.int 8)))) (sAsg (mC (.int 1)) (Py.gName 4)) sNext)
    (sSeq (sIf (mB (mOp fEq (mVar 2) (mC (.int 15)))) (sAsg (mOp fDiv (mOp fMul (mVar 3) (mCall d_law_huge [.v (mVar 0), .r 1])) (mC (.int 7))) (Py.gName 3)) sNext)
    (sSeq (sIf (mOr (mB (mOp fEq (mVar 2) (mC (.int 14)))) (mB (mOp fEq (mVar 2) (mC (.int 15))))) (sAsg (mOp fAdd (mC (.int 1)) (mOp fDiv (mCall d_law_huge [.v (mVar 0), .r 1]) (mC (.int 2)))) (Py.gName 4)) sNext)
    (sRet (mCall d_law_ratio [.v (mVar 3), .v (mVar 4)]))))))))
noncomputable def d_law_drawn : Den := mkDen 5 b_law_drawn

noncomputable def l1_total : SM :=
    (sFgt [2] (sAsg (mCall d_plus [.v (mVar 1), .v (mVar 2)]) (Py.gName 1)))
noncomputable def b_total : SM :=
    (sSeq (sAsg (mC (.tuple [.int 0, .int 1])) (Py.gName 1))
    (sSeq (sFor (iSeq (mFrz (mVar 0))) (Py.gName 2) l1_total)
    (sRet (mVar 1))))
noncomputable def d_total : Den := mkDen 3 b_total

noncomputable def e1_product_sum : M :=
    (mCall d_times [.v (mOp fIx (mVar 0) (mVar 2)), .v (mOp fIx (mVar 1) (mVar 2))])
noncomputable def b_product_sum : SM :=
    (sRet (mCall d_total [.v (mLc (Py.iRng1 (mUn fLen (mVar 0))) (Py.gName 2) [2] tYes e1_product_sum)]))
noncomputable def d_product_sum : Den := mkDen 3 b_product_sum

noncomputable def e1_gains : M :=
    (mOp fIx (mVar 5) (mVar 4))
noncomputable def e2_gains : M :=
    (mCall d_product_sum [.v (mVar 1), .v (mLc (iSeq (mFrz (mVar 3))) (Py.gName 5) [5] tYes e1_gains)])
noncomputable def b_gains : SM :=
    (sSeq (sAsg (mVar 0) (Py.gTup [2, 3]))
    (sRet (mUn fTuple (mLc (Py.iRng1 (mVar 2)) (Py.gName 4) [4] tYes e2_gains))))
noncomputable def d_gains : Den := mkDen 6 b_gains

noncomputable def e1_worths : M :=
    (mCall d_product_sum [.v (mVar 1), .v (mVar 2)])
noncomputable def b_worths : SM :=
    (sRet (mUn fTuple (mLc (iSeq (mOp fIx (mVar 0) (mC (.int 1)))) (Py.gName 2) [2] tYes e1_worths)))
noncomputable def d_worths : Den := mkDen 3 b_worths

noncomputable def l1_law_dot : SM :=
    (sFgt [4] (sSeq (sAsg (mOp fAdd (mOp fMul (mOp fMul (mVar 2) (mOp fIx (mOp fIx (mVar 0) (mVar 4)) (mC (.int 1)))) (mOp fIx (mOp fIx (mVar 1) (mVar 4)) (mC (.int 1)))) (mOp fMul (mOp fMul (mOp fIx (mOp fIx (mVar 0) (mVar 4)) (mC (.int 0))) (mOp fIx (mOp fIx (mVar 1) (mVar 4)) (mC (.int 0)))) (mVar 3))) (Py.gName 2))
    (sSeq (sAsg (mOp fMul (mOp fMul (mVar 3) (mOp fIx (mOp fIx (mVar 0) (mVar 4)) (mC (.int 1)))) (mOp fIx (mOp fIx (mVar 1) (mVar 4)) (mC (.int 1)))) (Py.gName 3))
    (sIf (mB (mOp fGt (mVar 3) (mOp fPow (mC (.int 10)) (mC (.int 40))))) (sAsg (mCall d_law_ratio [.v (mVar 2), .v (mVar 3)]) (Py.gTup [2, 3])) sNext))))
noncomputable def b_law_dot : SM :=
    (sSeq (sAsg (mC (.int 0)) (Py.gName 2))
    (sSeq (sAsg (mC (.int 1)) (Py.gName 3))
    (sSeq (sFor (Py.iRng1 (mUn fLen (mVar 0))) (Py.gName 4) l1_law_dot)
    (sRet (mCall d_law_ratio [.v (mVar 2), .v (mVar 3)])))))
noncomputable def d_law_dot : Den := mkDen 5 b_law_dot

noncomputable def e1_law_gained : M :=
    (mOp fIx (mVar 4) (mVar 3))
noncomputable def e2_law_gained : M :=
    (mCall d_law_dot [.v (mVar 2), .v (mLc (iSeq (mFrz (mVar 1))) (Py.gName 4) [4] tYes e1_law_gained)])
noncomputable def b_law_gained : SM :=
    (sRet (mUn fTuple (mLc (Py.iRng1 (mVar 0)) (Py.gName 3) [3] tYes e2_law_gained)))
noncomputable def d_law_gained : Den := mkDen 5 b_law_gained

noncomputable def e1_law_drawn_table : M :=
    (mCall d_law_drawn [.v (mVar 0), .r 1])
noncomputable def e2_law_drawn_table : M :=
    (mUn fTuple (mLc (Py.iRng1 (mVar 2)) (Py.gName 5) [5] tYes e1_law_drawn_table))
noncomputable def b_law_drawn_table : SM :=
    (sRet (mUn fTuple (mLc (Py.iRng1 (mVar 3)) (Py.gName 4) [4] tYes e2_law_drawn_table)))
noncomputable def d_law_drawn_table : Den := mkDen 6 b_law_drawn_table

noncomputable def e1_law_chances : M :=
    (mOp fAdd (mVar 2) (mCall d_law_take [.r 0, .v (mC (.int 4))]))
noncomputable def e2_law_chances : M :=
    (mCall d_law_ratio [.v (mVar 6), .v (mUn fSum (mVar 3))])
noncomputable def b_law_chances : SM :=
    (sSeq (sAsg (mCall d_law_take [.r 0, .v (mC (.int 2))]) (Py.gName 2))
    (sSeq (sAsg (mLc (Py.iRng1 (mVar 1)) (Py.gName 5) [5] tYes e1_law_chances) (Py.gName 3))
    (sSeq (sAsg (mCall d_law_take [.r 0, .v (mVar 1)]) (Py.gName 4))
    (sSeq (sSetIx 3 (mVar 4) (mOp fAdd (mOp fIx (mVar 3) (mVar 4)) (mC (.int 1))))
    (sRet (mUn fTuple (mLc (iSeq (mFrz (mVar 3))) (Py.gName 6) [6] tYes e2_law_chances)))))))
noncomputable def d_law_chances : Den := mkDen 7 b_law_chances

noncomputable def l1_law_drawn_stakes : SM :=
    (sFgt [4, 5] (sSeq (sAsg (mCall d_law_drawn [.v (mVar 0), .r 1]) (Py.gName 5))
    (sExpr (mAppend 3 (mTup (lCons (mUn fAbs (mOp fIx (mVar 5) (mC (.int 0)))) (lCons (mOp fIx (mVar 5) (mC (.int 1))) lNil)))))))
noncomputable def b_law_drawn_stakes : SM :=
    (sSeq (sAsg (mLst lNil) (Py.gName 3))
    (sSeq (sFor (Py.iRng1 (mVar 2)) (Py.gName 4) l1_law_drawn_stakes)
    (sRet (mUn fTuple (mVar 3)))))
noncomputable def d_law_drawn_stakes : Den := mkDen 6 b_law_drawn_stakes

noncomputable def e1_law_right_2 : M :=
    (mCall d_law_dot [.v (mVar 2), .v (mVar 3)])
noncomputable def b_law_right_2 : SM :=
    (sSeq (sIf (mNot (mTru (mCall (d_law_same 40) [.v (mCall d_gains [.v (mVar 0), .v (mVar 1)]), .v (mCall d_law_gained [.v (mOp fIx (mVar 0) (mC (.int 0))), .v (mOp fIx (mVar 0) (mC (.int 1))), .v (mVar 1)])]))) (sRet (mC (.bool false))) sNext)
    (sRet (mCall (d_law_same 40) [.v (mCall d_worths [.v (mVar 0), .v (mVar 2)]), .v (mUn fTuple (mLc (iSeq (mOp fIx (mVar 0) (mC (.int 1)))) (Py.gName 3) [3] tYes e1_law_right_2))])))
noncomputable def d_law_right_2 : Den := mkDen 4 b_law_right_2

noncomputable def b_is_fraction : SM :=
    (sRet (mAndV (mOp fGe (mOp fIx (mVar 0) (mC (.int 1))) (mC (.int 1))) (mOp fEq (mCall d_fraction [.v (mOp fIx (mVar 0) (mC (.int 0))), .v (mOp fIx (mVar 0) (mC (.int 1)))]) (mVar 0))))
noncomputable def d_is_fraction : Den := mkDen 1 b_is_fraction

noncomputable def e1_are_stakes : M :=
    (mCall d_is_fraction [.v (mVar 2)])
noncomputable def e2_are_stakes : M :=
    (mCall d_is_less [.v (mVar 2), .v (mC (.tuple [.int 0, .int 1]))])
noncomputable def b_are_stakes : SM :=
    (sSeq (sIf (mOr (mB (mOp fNe (mUn fLen (mVar 1)) (mUn fLen (mOp fIx (mVar 0) (mC (.int 1)))))) (mNot (mTru (mUn fAll (mLc (iSeq (mFrz (mVar 1))) (Py.gName 2) [2] tYes e1_are_stakes))))) (sRet (mC (.bool false))) sNext)
    (sRet (mNotV (mUn fAny (mLc (iSeq (mFrz (mVar 1))) (Py.gName 2) [2] tYes e2_are_stakes)))))
noncomputable def d_are_stakes : Den := mkDen 3 b_are_stakes

noncomputable def e1_judge_sure_bet : M :=
    (mCall d_is_less [.v (mC (.tuple [.int 0, .int 1])), .v (mVar 2)])
noncomputable def b_judge_sure_bet : SM :=
    (sRet (mAndV (mCall d_are_stakes [.v (mVar 0), .v (mVar 1)]) (mUn fAll (mLc (iSeq (mCall d_gains [.v (mVar 0), .v (mVar 1)])) (Py.gName 2) [2] tYes e1_judge_sure_bet))))
noncomputable def d_judge_sure_bet : Den := mkDen 3 b_judge_sure_bet

noncomputable def b_law_is_integer : SM :=
    (sRet (mAndV (mUn (fIsi .int) (mVar 0)) (mNotV (mUn (fIsi .bool) (mVar 0)))))
noncomputable def d_law_is_integer : Den := mkDen 1 b_law_is_integer

noncomputable def b_law_is_fraction : SM :=
    (sSeq (sIf (mOr (mNot (mTru (mUn (fIsi .tuple) (mVar 0)))) (mB (mOp fNe (mUn fLen (mVar 0)) (mC (.int 2))))) (sRet (mC (.bool false))) sNext)
    (sSeq (sIf (mOr (mNot (mTru (mCall d_law_is_integer [.v (mOp fIx (mVar 0) (mC (.int 0)))]))) (mOr (mNot (mTru (mCall d_law_is_integer [.v (mOp fIx (mVar 0) (mC (.int 1)))]))) (mB (mOp fLt (mOp fIx (mVar 0) (mC (.int 1))) (mC (.int 1)))))) (sRet (mC (.bool false))) sNext)
    (sRet (mOp fEq (mCall d_law_divisor [.v (mOp fIx (mVar 0) (mC (.int 0))), .v (mOp fIx (mVar 0) (mC (.int 1)))]) (mC (.int 1))))))
noncomputable def d_law_is_fraction : Den := mkDen 1 b_law_is_fraction

noncomputable def l1_law_is_row : SM :=
    (sFgt [2] (sIf (mNot (mTru (mCall d_law_is_fraction [.v (mVar 2)]))) (sRet (mC (.bool false))) sNext))
noncomputable def b_law_is_row : SM :=
    (sSeq (sIf (mOr (mNot (mTru (mUn (fIsi .tuple) (mVar 0)))) (mB (mOp fNe (mUn fLen (mVar 0)) (mVar 1)))) (sRet (mC (.bool false))) sNext)
    (sSeq (sFor (iSeq (mFrz (mVar 0))) (Py.gName 2) l1_law_is_row)
    (sRet (mC (.bool true)))))
noncomputable def d_law_is_row : Den := mkDen 3 b_law_is_row

noncomputable def l1_law_none_below : SM :=
    (sFgt [1] (sIf (mB (mOp fLt (mOp fIx (mVar 1) (mC (.int 0))) (mC (.int 0)))) (sRet (mC (.bool false))) sNext))
noncomputable def b_law_none_below : SM :=
    (sSeq (sFor (iSeq (mFrz (mVar 0))) (Py.gName 1) l1_law_none_below)
    (sRet (mC (.bool true))))
noncomputable def d_law_none_below : Den := mkDen 2 b_law_none_below

noncomputable def b_law_is_stakes : SM :=
    (sRet (mAndV (mCall d_law_is_row [.v (mVar 1), .v (mVar 0)]) (mCall d_law_none_below [.v (mVar 1)])))
noncomputable def d_law_is_stakes : Den := mkDen 2 b_law_is_stakes

noncomputable def l1_law_is_sure : SM :=
    (sFgt [3] (sIf (mB (mOp fLe (mOp fIx (mVar 3) (mC (.int 0))) (mC (.int 0)))) (sRet (mC (.bool false))) sNext))
noncomputable def b_law_is_sure : SM :=
    (sSeq (sIf (mNot (mTru (mCall d_law_is_stakes [.v (mUn fLen (mVar 1)), .v (mVar 2)]))) (sRet (mC (.bool false))) sNext)
    (sSeq (sFor (iSeq (mCall d_law_gained [.v (mVar 0), .v (mVar 1), .v (mVar 2)])) (Py.gName 3) l1_law_is_sure)
    (sRet (mC (.bool true)))))
noncomputable def d_law_is_sure : Den := mkDen 4 b_law_is_sure

noncomputable def b_law_put : SM :=
    (sRet (mOp fAdd (mOp fAdd (mSl (mVar 0) oNone (oSome (mVar 1))) (mTup (lCons (mVar 2) lNil))) (mSl (mVar 0) (oSome (mOp fAdd (mVar 1) (mC (.int 1)))) oNone)))
noncomputable def d_law_put : Den := mkDen 3 b_law_put

noncomputable def e1_law_scaled : M :=
    (mCall d_law_times [.v (mVar 2), .v (mVar 1)])
noncomputable def b_law_scaled : SM :=
    (sRet (mUn fTuple (mLc (iSeq (mFrz (mVar 0))) (Py.gName 2) [2] tYes e1_law_scaled)))
noncomputable def d_law_scaled : Den := mkDen 3 b_law_scaled

noncomputable def e1_law_shifted : M :=
    (mCall d_law_plus [.v (mVar 2), .v (mVar 1)])
noncomputable def b_law_shifted : SM :=
    (sRet (mUn fTuple (mLc (iSeq (mFrz (mVar 0))) (Py.gName 2) [2] tYes e1_law_shifted)))
noncomputable def d_law_shifted : Den := mkDen 3 b_law_shifted

noncomputable def e1_law_turned : M :=
    (mTup (lCons (mUn fNeg (mOp fIx (mVar 1) (mC (.int 0)))) (lCons (mOp fIx (mVar 1) (mC (.int 1))) lNil)))
noncomputable def b_law_turned : SM :=
    (sRet (mUn fTuple (mLc (iSeq (mFrz (mVar 0))) (Py.gName 1) [1] tYes e1_law_turned)))
noncomputable def d_law_turned : Den := mkDen 2 b_law_turned

noncomputable def b_law_factor : SM :=
    (sSeq (sAsg (mCall d_law_take [.r 1, .v (mC (.int 8))]) (Py.gName 2))
    (sSeq (sIf (mB (mOp fLt (mVar 2) (mC (.int 4)))) (sRet (mTup (lCons (mC (.int 1)) (lCons (mC (.int 1)) lNil)))) sNext)
    (sSeq (sIf (mB (mOp fLt (mVar 2) (mC (.int 7)))) (sRet (mCall d_law_ratio [.v (mOp fAdd (mC (.int 1)) (mCall d_law_take [.r 1, .v (mC (.int 5))])), .v (mOp fAdd (mC (.int 1)) (mCall d_law_take [.r 1, .v (mC (.int 5))]))])) sNext)
    (sRet (mCall d_law_ratio [.v (mOp fAdd (mC (.int 1)) (mOp fDiv (mCall d_law_huge [.v (mVar 0), .r 1]) (mOp fPow (mC (.int 10)) (mC (.int 23))))), .v (mOp fAdd (mC (.int 1)) (mOp fDiv (mCall d_law_huge [.v (mVar 0), .r 1]) (mOp fPow (mC (.int 10)) (mC (.int 23)))))])))))
noncomputable def d_law_factor : Den := mkDen 3 b_law_factor

noncomputable def b_law_slack : SM :=
    (sSeq (sAsg (mCall d_law_take [.r 0, .v (mC (.int 6))]) (Py.gName 1))
    (sSeq (sIf (mB (mOp fLt (mVar 1) (mC (.int 3)))) (sRet (mTup (lCons (mC (.int 0)) (lCons (mC (.int 1)) lNil)))) sNext)
    (sSeq (sIf (mB (mOp fEq (mVar 1) (mC (.int 3)))) (sRet (mTup (lCons (mC (.int 1)) (lCons (mOp fIx (mLst (lCons (mOp fPow (mC (.int 10)) (mC (.int 6))) (lCons (mOp fPow (mC (.int 10)) (mC (.int 12))) (lCons (mOp fPow (mC (.int 10)) (mC (.int 18))) lNil)))) (mCall d_law_take [.r 0, .v (mC (.int 3))])) lNil)))) sNext)
    (sRet (mCall d_law_ratio [.v (mOp fAdd (mC (.int 1)) (mCall d_law_take [.r 0, .v (mC (.int 4))])), .v (mOp fAdd (mC (.int 1)) (mCall d_law_take [.r 0, .v (mC (.int 3))]))])))))
noncomputable def d_law_slack : Den := mkDen 2 b_law_slack

noncomputable def e1_law_bet_worth : M :=
    (mTup (lCons (mOp fSub (mCall d_law_take [.r 0, .v (mC (.int 9))]) (mC (.int 4))) (lCons (mC (.int 1)) lNil)))
noncomputable def b_law_bet_worth : SM :=
    (sSeq (sAsg (mLc (iSeq (mFrz (mVar 1))) (Py.gName 4) [4] tYes e1_law_bet_worth) (Py.gName 3))
    (sRet (mCall d_law_shifted [.v (mVar 3), .v (mCall d_law_minus [.v (mVar 2), .v (mCall d_law_dot [.v (mVar 1), .v (mVar 3)])])])))
noncomputable def d_law_bet_worth : Den := mkDen 5 b_law_bet_worth

noncomputable def e1_law_fair_bets : M :=
    (mTup (lCons (mC (.int 0)) (lCons (mC (.int 1)) lNil)))
noncomputable def l2_law_fair_bets : SM :=
    (sFgt [6, 7, 8] (sSeq (sAsg (mCall d_law_slack [.r 1]) (Py.gName 7))
    (sSeq (sAsg (mCall d_law_bet_worth [.r 1, .v (mVar 2), .v (mTup (lCons (mUn fNeg (mOp fIx (mVar 7) (mC (.int 0)))) (lCons (mOp fIx (mVar 7) (mC (.int 1))) lNil)))]) (Py.gName 8))
    (sSeq (sIf (mAnd (mB (mOp fEq (mCall d_law_take [.r 1, .v (mC (.int 4))]) (mC (.int 0)))) (mB (mOp fEq (mOp fIx (mCall d_law_dot [.v (mVar 2), .v (mVar 5)]) (mC (.int 0))) (mC (.int 0))))) (sAsg (mCall d_law_turned [.v (mVar 5)]) (Py.gName 8)) sNext)
    (sSeq (sAsg (mVar 8) (Py.gName 5))
    (sExpr (mAppend 4 (mCall d_law_scaled [.v (mVar 8), .v (mCall d_law_factor [.v (mVar 0), .r 1])]))))))))
noncomputable def b_law_fair_bets : SM :=
    (sSeq (sAsg (mLst lNil) (Py.gName 4))
    (sSeq (sAsg (mUn fTuple (mLc (iSeq (mFrz (mVar 2))) (Py.gName 9) [9] tYes e1_law_fair_bets)) (Py.gName 5))
    (sSeq (sFgt [5] (sFor (Py.iRng1 (mVar 3)) (Py.gName 6) l2_law_fair_bets))
    (sRet (mUn fTuple (mVar 4))))))
noncomputable def d_law_fair_bets : Den := mkDen 10 b_law_fair_bets

noncomputable def e1_law_sure_bets : M :=
    (mCall d_law_ratio [.v (mCall d_law_take [.r 1, .v (mC (.int 4))]), .v (mOp fAdd (mC (.int 1)) (mCall d_law_take [.r 1, .v (mC (.int 3))]))])
noncomputable def e2_law_sure_bets : M :=
    (mTup (lCons (mOp fSub (mCall d_law_take [.r 1, .v (mC (.int 9))]) (mC (.int 4))) (lCons (mC (.int 1)) lNil)))
noncomputable def e3_law_sure_bets : M :=
    (mUn fTuple (mLc (Py.iRng1 (mVar 2)) (Py.gName 13) [13] tYes e2_law_sure_bets))
noncomputable def e4_law_sure_bets : M :=
    (mTup (lCons (mOp fAdd (mC (.int 1)) (mCall d_law_take [.r 1, .v (mC (.int 3))])) (lCons (mOp fAdd (mC (.int 1)) (mCall d_law_take [.r 1, .v (mC (.int 2))])) lNil)))
noncomputable def e5_law_sure_bets : M :=
    (mTup (lCons (mC (.int 1)) (lCons (mOp fIx (mLst (lCons (mOp fPow (mC (.int 10)) (mC (.int 6))) (lCons (mOp fPow (mC (.int 10)) (mC (.int 12))) (lCons (mOp fPow (mC (.int 10)) (mC (.int 18))) lNil)))) (mCall d_law_take [.r 1, .v (mC (.int 3))])) lNil)))
noncomputable def e6_law_sure_bets : M :=
    (mOp fIx (mVar 4) (mVar 11))
noncomputable def t7_law_sure_bets : MT :=
    (mB (mOp fNe (mVar 11) (mVar 5)))
noncomputable def e8_law_sure_bets : M :=
    (mOp fIx (mVar 6) (mVar 11))
noncomputable def t9_law_sure_bets : MT :=
    (mB (mOp fNe (mVar 11) (mVar 5)))
noncomputable def e10_law_sure_bets : M :=
    (mCall d_law_times [.v (mCall d_law_minus [.v (mOp fIx (mVar 7) (mVar 13)), .v (mOp fIx (mVar 9) (mVar 13))]), .v (mVar 10)])
noncomputable def l11_law_sure_bets : SM :=
    (sFgt [11, 12] (sSeq (sAsg (mCall d_law_factor [.v (mVar 0), .r 1]) (Py.gName 12))
    (sSeq (sSetIx 6 (mVar 11) (mCall d_law_scaled [.v (mOp fIx (mVar 6) (mVar 11)), .v (mVar 12)]))
    (sSetIx 4 (mVar 11) (mCall d_law_times [.v (mOp fIx (mVar 4) (mVar 11)), .v (mTup (lCons (mOp fIx (mVar 12) (mC (.int 1))) (lCons (mOp fIx (mVar 12) (mC (.int 0))) lNil)))])))))
noncomputable def b_law_sure_bets : SM :=
    (sSeq (sAsg (mLc (Py.iRng1 (mVar 3)) (Py.gName 11) [11] tYes e1_law_sure_bets) (Py.gName 4))
    (sSeq (sAsg (mCall d_law_take [.r 1, .v (mVar 3)]) (Py.gName 5))
    (sSeq (sSetIx 4 (mVar 5) (mCall d_law_plus [.v (mOp fIx (mVar 4) (mVar 5)), .v (mTup (lCons (mC (.int 1)) (lCons (mC (.int 2)) lNil)))]))
    (sSeq (sAsg (mLc (Py.iRng1 (mVar 3)) (Py.gName 11) [11] tYes e3_law_sure_bets) (Py.gName 6))
    (sSeq (sAsg (mLc (Py.iRng1 (mVar 2)) (Py.gName 13) [13] tYes e4_law_sure_bets) (Py.gName 7))
    (sSeq (sIf (mB (mOp fEq (mCall d_law_take [.r 1, .v (mC (.int 3))]) (mC (.int 0)))) (sAsg (mLc (iSeq (mFrz (mVar 7))) (Py.gName 14) [14] tYes e5_law_sure_bets) (Py.gName 7)) sNext)
    (sSeq (sAsg (mLc (Py.iRng1 (mVar 3)) (Py.gName 11) [11] t7_law_sure_bets e6_law_sure_bets) (Py.gName 8))
    (sSeq (sAsg (mCall d_law_gained [.v (mVar 2), .v (mLc (Py.iRng1 (mVar 3)) (Py.gName 11) [11] t9_law_sure_bets e8_law_sure_bets), .v (mVar 8)]) (Py.gName 9))
    (sSeq (sAsg (mCall d_law_ratio [.v (mOp fIx (mOp fIx (mVar 4) (mVar 5)) (mC (.int 1))), .v (mOp fIx (mOp fIx (mVar 4) (mVar 5)) (mC (.int 0)))]) (Py.gName 10))
    (sSeq (sSetIx 6 (mVar 5) (mUn fTuple (mLc (Py.iRng1 (mVar 2)) (Py.gName 13) [13] tYes e10_law_sure_bets)))
    (sSeq (sFor (Py.iRng1 (mVar 3)) (Py.gName 11) l11_law_sure_bets)
    (sRet (mTup (lCons (mUn fTuple (mVar 6)) (lCons (mUn fTuple (mVar 4)) lNil)))))))))))))))
noncomputable def d_law_sure_bets : Den := mkDen 15 b_law_sure_bets

noncomputable def b_law_bad_pair : SM :=
    (sSeq (sAsg (mCall d_law_take [.r 1, .v (mC (.int 7))]) (Py.gName 3))
    (sSeq (sAsg (mOp fAdd (mC (.int 2)) (mCall d_law_take [.r 1, .v (mC (.int 4))])) (Py.gName 4))
    (sSeq (sIf (mB (mOp fEq (mVar 3) (mC (.int 0)))) (sRet (mTup (lCons (mOp fMul (mOp fIx (mVar 2) (mC (.int 0))) (mVar 4)) (lCons (mOp fMul (mOp fIx (mVar 2) (mC (.int 1))) (mVar 4)) lNil)))) sNext)
    (sSeq (sIf (mB (mOp fEq (mVar 3) (mC (.int 1)))) (sRet (mTup (lCons (mUn fNeg (mOp fIx (mVar 2) (mC (.int 0)))) (lCons (mUn fNeg (mOp fIx (mVar 2) (mC (.int 1)))) lNil)))) sNext)
    (sSeq (sIf (mB (mOp fEq (mVar 3) (mC (.int 2)))) (sRet (mTup (lCons (mOp fIx (mVar 2) (mC (.int 0))) (lCons (mC (.int 0)) lNil)))) sNext)
    (sSeq (sIf (mB (mOp fEq (mVar 3) (mC (.int 3)))) (sRet (mTup (lCons (mC (.int 0)) (lCons (mOp fAdd (mC (.int 1)) (mVar 4)) lNil)))) sNext)
    (sSeq (sIf (mB (mOp fEq (mVar 3) (mC (.int 4)))) (sRet (mTup (lCons (mOp fIx (mVar 2) (mC (.int 0))) (lCons (mUn fNeg (mOp fIx (mVar 2) (mC (.int 1)))) lNil)))) sNext)
    (sSeq (sAsg (mOp fAdd (mC (.int 2)) (mUn fAbs (mCall d_law_cell [.v (mVar 0), .v (mCall d_law_take [.r 1, .v (mC (.int 63))])]))) (Py.gName 4))
    (sSeq (sIf (mB (mOp fEq (mVar 3) (mC (.int 5)))) (sRet (mTup (lCons (mOp fMul (mOp fIx (mVar 2) (mC (.int 0))) (mVar 4)) (lCons (mOp fMul (mOp fIx (mVar 2) (mC (.int 1))) (mVar 4)) lNil)))) sNext)
    (sRet (mTup (lCons (mOp fAdd (mC (.int 1)) (mVar 4)) (lCons (mUn fNeg (mVar 4)) lNil)))))))))))))
noncomputable def d_law_bad_pair : Den := mkDen 5 b_law_bad_pair

noncomputable def l1_law_spoilt : SM :=
    (sFgt [4, 5, 6, 7, 8] (sIf (mB (mOp fGt (mUn fLen (mVar 2)) (mC (.int 0)))) (sSeq (sAsg (mCall d_law_take [.r 1, .v (mUn fLen (mVar 2))]) (Py.gName 5))
    (sSeq (sAsg (mOp fIx (mVar 2) (mVar 5)) (Py.gName 6))
    (sSeq (sAsg (mTup (lCons (mC (.int 1)) (lCons (mOp fAdd (mC (.int 1)) (mCall d_law_huge [.v (mVar 0), .r 1])) lNil))) (Py.gName 7))
    (sSeq (sExpr (mAppend 3 (mCall d_law_put [.v (mVar 2), .v (mVar 5), .v (mCall d_law_bad_pair [.v (mVar 0), .r 1, .v (mVar 6)])])))
    (sSeq (sExpr (mAppend 3 (mCall d_law_put [.v (mVar 2), .v (mVar 5), .v (mTup (lCons (mOp fMul (mOp fIx (mVar 6) (mC (.int 0))) (mC (.int 3))) (lCons (mOp fMul (mOp fIx (mVar 6) (mC (.int 1))) (mC (.int 3))) lNil)))])))
    (sSeq (sExpr (mAppend 3 (mCall d_law_put [.v (mVar 2), .v (mVar 5), .v (mCall d_law_plus [.v (mVar 6), .v (mVar 7)])])))
    (sSeq (sExpr (mAppend 3 (mCall d_law_put [.v (mVar 2), .v (mVar 5), .v (mCall d_law_minus [.v (mVar 6), .v (mVar 7)])])))
    (sSeq (sExpr (mAppend 3 (mCall d_law_put [.v (mVar 2), .v (mVar 5), .v (mTup (lCons (mUn fNeg (mOp fIx (mVar 6) (mC (.int 0)))) (lCons (mOp fIx (mVar 6) (mC (.int 1))) lNil)))])))
    (sSeq (sExpr (mAppend 3 (mCall d_law_put [.v (mVar 2), .v (mVar 5), .v (mTup (lCons (mC (.int 0)) (lCons (mC (.int 1)) lNil)))])))
    (sSeq (sAsg (mCall d_law_take [.r 1, .v (mUn fLen (mVar 2))]) (Py.gName 8))
    (sSeq (sExpr (mAppend 3 (mCall d_law_put [.v (mCall d_law_put [.v (mVar 2), .v (mVar 5), .v (mOp fIx (mVar 2) (mVar 8))]), .v (mVar 8), .v (mVar 6)])))
    (sSeq (sExpr (mAppend 3 (mCall d_law_put [.v (mCall d_law_put [.v (mVar 2), .v (mVar 8), .v (mCall d_law_plus [.v (mOp fIx (mVar 2) (mVar 8)), .v (mVar 7)])]), .v (mVar 5), .v (mTup (lCons (mOp fSub (mUn fNeg (mC (.int 1))) (mOp fMul (mOp fIx (mVar 6) (mC (.int 0))) (mOp fIx (mVar 6) (mC (.int 0))))) (lCons (mC (.int 1)) lNil)))])))
    (sSeq (sAsg (mOp fIx (mVar 3) (mOp fAdd (mC (.int 4)) (mCall d_law_take [.r 1, .v (mOp fSub (mUn fLen (mVar 3)) (mC (.int 4)))]))) (Py.gName 2))
    (sIf (mNot (mTru (mCall d_law_is_row [.v (mVar 2), .v (mUn fLen (mVar 2))]))) (sAsg (mTup lNil) (Py.gName 2)) sNext)))))))))))))) sNext))
noncomputable def b_law_spoilt : SM :=
    (sSeq (sAsg (mLst (lCons (mOp fAdd (mVar 2) (mTup (lCons (mTup (lCons (mC (.int 0)) (lCons (mC (.int 1)) lNil))) lNil))) (lCons (mSl (mVar 2) (oSome (mC (.int 1))) oNone) (lCons (mSl (mVar 2) oNone (oSome (mOp fSub (mUn fLen (mVar 2)) (mC (.int 1))))) (lCons (mTup lNil) lNil))))) (Py.gName 3))
    (sSeq (sFgt [2] (sFor (Py.iRng1 (mC (.int 2))) (Py.gName 4) l1_law_spoilt))
    (sRet (mVar 3))))
noncomputable def d_law_spoilt : Den := mkDen 9 b_law_spoilt

noncomputable def e1_are_chances : M :=
    (mCall d_is_fraction [.v (mVar 2)])
noncomputable def e2_are_chances : M :=
    (mCall d_is_less [.v (mVar 2), .v (mC (.tuple [.int 0, .int 1]))])
noncomputable def b_are_chances : SM :=
    (sSeq (sIf (mOr (mB (mOp fNe (mUn fLen (mVar 1)) (mVar 0))) (mNot (mTru (mUn fAll (mLc (iSeq (mFrz (mVar 1))) (Py.gName 2) [2] tYes e1_are_chances))))) (sRet (mC (.bool false))) sNext)
    (sSeq (sIf (mTru (mUn fAny (mLc (iSeq (mFrz (mVar 1))) (Py.gName 2) [2] tYes e2_are_chances))) (sRet (mC (.bool false))) sNext)
    (sRet (mOp fEq (mCall d_product_sum [.v (mVar 1), .v (mOp fMul (mLst (lCons (mC (.tuple [.int 1, .int 1])) lNil)) (mVar 0))]) (mC (.tuple [.int 1, .int 1]))))))
noncomputable def d_are_chances : Den := mkDen 3 b_are_chances

noncomputable def e1_are_fair : M :=
    (mCall d_is_less [.v (mC (.tuple [.int 0, .int 1])), .v (mVar 2)])
noncomputable def b_are_fair : SM :=
    (sRet (mNotV (mUn fAny (mLc (iSeq (mCall d_worths [.v (mVar 0), .v (mVar 1)])) (Py.gName 2) [2] tYes e1_are_fair))))
noncomputable def d_are_fair : Den := mkDen 3 b_are_fair

noncomputable def b_judge_chances : SM :=
    (sRet (mAndV (mCall d_are_chances [.v (mOp fIx (mVar 0) (mC (.int 0))), .v (mVar 1)]) (mCall d_are_fair [.v (mVar 0), .v (mVar 1)])))
noncomputable def d_judge_chances : Den := mkDen 2 b_judge_chances

noncomputable def b_law_is_chances : SM :=
    (sSeq (sIf (mOr (mNot (mTru (mCall d_law_is_row [.v (mVar 1), .v (mVar 0)]))) (mNot (mTru (mCall d_law_none_below [.v (mVar 1)])))) (sRet (mC (.bool false))) sNext)
    (sRet (mOp fEq (mCall d_law_dot [.v (mVar 1), .v (mOp fMul (mLst (lCons (mTup (lCons (mC (.int 1)) (lCons (mC (.int 1)) lNil))) lNil)) (mVar 0))]) (mTup (lCons (mC (.int 1)) (lCons (mC (.int 1)) lNil))))))
noncomputable def d_law_is_chances : Den := mkDen 2 b_law_is_chances

noncomputable def l1_law_is_fair : SM :=
    (sFgt [3] (sIf (mB (mOp fGt (mOp fIx (mCall d_law_dot [.v (mVar 2), .v (mVar 3)]) (mC (.int 0))) (mC (.int 0)))) (sRet (mC (.bool false))) sNext))
noncomputable def b_law_is_fair : SM :=
    (sSeq (sIf (mNot (mTru (mCall d_law_is_chances [.v (mVar 0), .v (mVar 2)]))) (sRet (mC (.bool false))) sNext)
    (sSeq (sFor (iSeq (mFrz (mVar 1))) (Py.gName 3) l1_law_is_fair)
    (sRet (mC (.bool true)))))
noncomputable def d_law_is_fair : Den := mkDen 4 b_law_is_fair

noncomputable def l1_law_asked_2 : SM :=
    (sFgt [3] (sIf (mNot (mTru (mCall (d_law_same 40) [.v (mCall d_judge_chances [.v (mTup (lCons (mVar 0) (lCons (mVar 1) lNil))), .v (mVar 3)]), .v (mCall d_law_is_fair [.v (mVar 0), .v (mVar 1), .v (mVar 3)])]))) (sRet (mC (.bool false))) sNext))
noncomputable def b_law_asked_2 : SM :=
    (sSeq (sFor (iSeq (mFrz (mVar 2))) (Py.gName 3) l1_law_asked_2)
    (sRet (mC (.bool true))))
noncomputable def d_law_asked_2 : Den := mkDen 4 b_law_asked_2

noncomputable def b_law_below : SM :=
    (sSeq (sAsg (mCall d_law_take [.r 1, .v (mUn fLen (mVar 0))]) (Py.gName 2))
    (sSeq (sAsg (mOp fMod (mUn fInt (mOp fAdd (mVar 2) (mC (.int 1)))) (mUn fLen (mVar 0))) (Py.gName 3))
    (sSeq (sAsg (mCall d_law_plus [.v (mOp fIx (mVar 0) (mVar 2)), .v (mTup (lCons (mC (.int 1)) (lCons (mOp fAdd (mC (.int 1)) (mCall d_law_take [.r 1, .v (mC (.int 9))])) lNil)))]) (Py.gName 4))
    (sSeq (sAsg (mCall d_law_put [.v (mVar 0), .v (mVar 2), .v (mCall d_law_minus [.v (mOp fIx (mVar 0) (mVar 2)), .v (mVar 4)])]) (Py.gName 5))
    (sRet (mCall d_law_put [.v (mVar 5), .v (mVar 3), .v (mCall d_law_plus [.v (mOp fIx (mVar 5) (mVar 3)), .v (mVar 4)])]))))))
noncomputable def d_law_below : Den := mkDen 6 b_law_below

noncomputable def b_divided : SM :=
    (sRet (mCall d_fraction [.v (mOp fMul (mOp fIx (mVar 0) (mC (.int 0))) (mOp fIx (mVar 1) (mC (.int 1)))), .v (mOp fMul (mOp fIx (mVar 0) (mC (.int 1))) (mOp fIx (mVar 1) (mC (.int 0))))]))
noncomputable def d_divided : Den := mkDen 2 b_divided

noncomputable def b_law_size : SM :=
    (sSeq (sAsg (mCall d_law_take [.r 0, .v (mC (.int 6))]) (Py.gName 2))
    (sSeq (sAsg (mCall d_law_take [.r 0, .v (mC (.int 10))]) (Py.gName 3))
    (sSeq (sIf (mB (mOp fEq (mVar 3) (mC (.int 0)))) (sAsg (mOp fAdd (mVar 2) (mOp fMul (mOp fAdd (mC (.int 1)) (mCall d_law_take [.r 0, .v (mC (.int 1000))])) (mOp fIx (mLst (lCons (mOp fPow (mC (.int 10)) (mC (.int 3))) (lCons (mOp fPow (mC (.int 10)) (mC (.int 9))) (lCons (mOp fPow (mC (.int 10)) (mC (.int 18))) (lCons (mOp fPow (mC (.int 10)) (mC (.int 40))) lNil))))) (mCall d_law_take [.r 0, .v (mC (.int 4))])))) (Py.gName 2)) sNext)
    (sSeq (sIf (mB (mOp fEq (mVar 3) (mC (.int 1)))) (sAsg (mOp fAdd (mVar 2) (mUn fAbs (mCall d_law_cell [.v (mVar 1), .v (mCall d_law_take [.r 0, .v (mC (.int 63))])]))) (Py.gName 2)) sNext)
    (sRet (mVar 2))))))
noncomputable def d_law_size : Den := mkDen 4 b_law_size

noncomputable def l1_law_common : SM :=
    (sFgt [] (sPar 0 1 (mVar 1) (mOp fMod (mUn fInt (mVar 0)) (mVar 1))))
noncomputable def t2_law_common : MT :=
    (mB (mOp fGt (mVar 1) (mC (.int 0))))
noncomputable def b_law_common : SM :=
    (sSeq (sPar 0 1 (mUn fAbs (mVar 0)) (mUn fAbs (mVar 1)))
    (sSeq (sFgt [1] (sWhile t2_law_common l1_law_common))
    (sRet (mVar 0))))
noncomputable def d_law_common : Den := mkDen 2 b_law_common

noncomputable def b_law_fraction : SM :=
    (sSeq (sAsg (mCall d_law_common [.v (mVar 0), .v (mVar 1)]) (Py.gName 2))
    (sSeq (sIf (mB (mOp fLt (mVar 1) (mC (.int 0)))) (sAsg (mUn fNeg (mVar 2)) (Py.gName 2)) sNext)
    (sRet (mTup (lCons (mOp fDiv (mVar 0) (mVar 2)) (lCons (mOp fDiv (mVar 1) (mVar 2)) lNil))))))
noncomputable def d_law_fraction : Den := mkDen 3 b_law_fraction

noncomputable def l1_winners (self : Den) : SM :=
    (sFgt [10, 11] (sAsg (mCall d_plus [.v (mVar 9), .v (mCall d_times [.v (mVar 11), .v (mOp fIx (mOp fIx (mVar 0) (mVar 7)) (mVar 10))])]) (Py.gName 9)))
noncomputable def l2_winners (self : Den) : SM :=
    (sFgt [7, 8, 9, 10, 11] (sSeq (sAsg (mC (.tuple [.int 0, .int 1])) (Py.gName 9))
    (sSeq (sFor (iSeq (mFrz (mVar 6))) (Py.gTup [10, 11]) (l1_winners self))
    (sExpr (mAppend 4 (mTup (lCons (mVar 7) (lCons (mCall d_times [.v (mVar 8), .v (mVar 9)]) lNil))))))))
noncomputable def l3_winners (self : Den) : SM :=
    (sFgt [5, 6, 7, 8, 9, 10, 11] (sFor (iSeq (mFrz (mVar 5))) (Py.gTup [7, 8]) (l2_winners self)))
noncomputable def b_winners (self : Den) : SM :=
    (sSeq (sIf (mB (mOp fEq (mUn fLen (mVar 1)) (mC (.int 1)))) (sRet (mLst (lCons (mTup (lCons (mOp fIx (mVar 1) (mC (.int 0))) (lCons (mC (.tuple [.int 1, .int 1])) lNil))) lNil))) sNext)
    (sSeq (sAsg (mOp fDiv (mUn fLen (mVar 1)) (mC (.int 2))) (Py.gName 2))
    (sSeq (sAsg (mTup (lCons (mCall self [.v (mVar 0), .v (mSl (mVar 1) oNone (oSome (mVar 2)))]) (lCons (mCall self [.v (mVar 0), .v (mSl (mVar 1) (oSome (mVar 2)) oNone)]) lNil))) (Py.gName 3))
    (sSeq (sAsg (mLst lNil) (Py.gName 4))
    (sSeq (sFor (iSeq (mTup (lCons (mVar 3) (lCons (mUn fRevT (mVar 3)) lNil)))) (Py.gTup [5, 6]) (l3_winners self))
    (sRet (mVar 4)))))))
noncomputable def d_winners : Nat → Den
  | 0 => fun _ => none
  | n + 1 => mkDen 12 (b_winners (d_winners n))

noncomputable def e1_to_win : M :=
    (mOp fDget (mVar 2) (mVar 3))
noncomputable def b_to_win : SM :=
    (sSeq (sAsg (mUn fDictL (mCall (d_winners 40) [.v (mVar 0), .v (mVar 1)])) (Py.gName 2))
    (sRet (mUn fTuple (mLc (Py.iRng1 (mUn fLen (mVar 1))) (Py.gName 3) [3] tYes e1_to_win))))
noncomputable def d_to_win : Den := mkDen 4 b_to_win

noncomputable def e1_law_ladder : M :=
    (mTup (lCons (mC (.int 0)) (lCons (mC (.int 1)) lNil)))
noncomputable def e2_law_ladder : M :=
    (mLc (Py.iRng1 (mVar 1)) (Py.gName 5) [5] tYes e1_law_ladder)
noncomputable def x3_law_ladder : ES → Option ES :=
    (ladF 4 (mVar 1) (ladF 5 (mVar 4) (ladQ (ladP 6 (mOp fIx (mLst (lCons (mCall d_law_take [.r 0, .v (mOp fAdd (mVar 2) (mC (.int 1)))]) (lCons (mCall d_law_take [.r 0, .v (mOp fAdd (mVar 2) (mC (.int 1)))]) (lCons (mOp fDiv (mVar 2) (mC (.int 2))) (lCons (mVar 2) (lCons (mC (.int 0)) lNil)))))) (mCall d_law_take [.r 0, .v (mC (.int 5))]))) (ladQ (ladS 4 5 (mCall d_law_fraction [.v (mVar 6), .v (mVar 2)])) (ladS 5 4 (mCall d_law_fraction [.v (mOp fSub (mVar 2) (mVar 6)), .v (mVar 2)]))))))
noncomputable def e4_law_ladder : M :=
    (mUn fTuple (mVar 7))
noncomputable def b_law_ladder : SM :=
    (sSeq (sLad 3 4 1 [4] e2_law_ladder x3_law_ladder)
    (sRet (mUn fTuple (mLc (iSeq (mFrz (mVar 3))) (Py.gName 7) [7] tYes e4_law_ladder))))
noncomputable def d_law_ladder : Den := mkDen 8 b_law_ladder

noncomputable def l1_law_order_k63 : SM :=
    (sFgt [4] (sExpr (mAppend 3 (mPopAt 2 (mCall d_law_take [.r 0, .v (mUn fLen (mVar 2))])))))
noncomputable def b_law_order_k63 : SM :=
    (sSeq (sAsg (mLstR1 (mVar 1)) (Py.gName 2))
    (sSeq (sAsg (mLst lNil) (Py.gName 3))
    (sSeq (sFor (Py.iRng1 (mVar 1)) (Py.gName 4) l1_law_order_k63)
    (sRet (mUn fTuple (mVar 3))))))
noncomputable def d_law_order_k63 : Den := mkDen 5 b_law_order_k63

noncomputable def l1_law_met : SM :=
    (sFgt [9, 10] (sAsg (mOp fDiv (mOp fMul (mVar 3) (mOp fIx (mOp fIx (mOp fIx (mVar 0) (mVar 4)) (mVar 9)) (mC (.int 1)))) (mCall d_law_common [.v (mVar 3), .v (mOp fIx (mOp fIx (mOp fIx (mVar 0) (mVar 4)) (mVar 9)) (mC (.int 1)))])) (Py.gName 3)))
noncomputable def l2_law_met : SM :=
    (sFgt [4, 5, 9, 10] (sFor (iSeq (mOp fIx (mVar 2) (mC (.int 0)))) (Py.gTup [9, 10]) l1_law_met))
noncomputable def l3_law_met : SM :=
    (sFgt [10, 13] (sAsg (mOp fAdd (mVar 12) (mOp fMul (mOp fMul (mVar 10) (mOp fIx (mOp fIx (mOp fIx (mVar 0) (mVar 11)) (mVar 13)) (mC (.int 0)))) (mOp fDiv (mVar 3) (mOp fIx (mOp fIx (mOp fIx (mVar 0) (mVar 11)) (mVar 13)) (mC (.int 1)))))) (Py.gName 12)))
noncomputable def l4_law_met : SM :=
    (sFgt [5, 10, 11, 12, 13] (sSeq (sAsg (mC (.int 0)) (Py.gName 12))
    (sSeq (sFor (iSeq (mOp fIx (mVar 8) (mC (.int 0)))) (Py.gTup [13, 10]) l3_law_met)
    (sExpr (mAppend 6 (mTup (lCons (mVar 11) (lCons (mOp fMul (mVar 5) (mVar 12)) lNil))))))))
noncomputable def l5_law_met : SM :=
    (sFgt [5, 7, 8, 10, 11, 12, 13] (sFor (iSeq (mOp fIx (mVar 7) (mC (.int 0)))) (Py.gTup [11, 5]) l4_law_met))
noncomputable def b_law_met : SM :=
    (sSeq (sAsg (mC (.int 1)) (Py.gName 3))
    (sSeq (sFor (iSeq (mOp fIx (mVar 1) (mC (.int 0)))) (Py.gTup [4, 5]) l2_law_met)
    (sSeq (sAsg (mLst lNil) (Py.gName 6))
    (sSeq (sFor (iSeq (mLst (lCons (mTup (lCons (mVar 1) (lCons (mVar 2) lNil))) (lCons (mTup (lCons (mVar 2) (lCons (mVar 1) lNil))) lNil)))) (Py.gTup [7, 8]) l5_law_met)
    (sRet (mTup (lCons (mVar 6) (lCons (mOp fMul (mOp fMul (mOp fIx (mVar 1) (mC (.int 1))) (mOp fIx (mVar 2) (mC (.int 1)))) (mVar 3)) lNil))))))))
noncomputable def d_law_met : Den := mkDen 14 b_law_met

noncomputable def e1_law_winners : M :=
    (mTup (lCons (mLst (lCons (mTup (lCons (mVar 6) (lCons (mC (.int 1)) lNil))) lNil)) (lCons (mC (.int 1)) lNil)))
noncomputable def l2_law_winners : SM :=
    (sFgt [5] (sExpr (mAppend 4 (mCall d_law_met [.v (mVar 0), .v (mOp fIx (mVar 2) (mOp fMul (mC (.int 2)) (mVar 5))), .v (mOp fIx (mVar 2) (mOp fAdd (mOp fMul (mC (.int 2)) (mVar 5)) (mC (.int 1))))]))))
noncomputable def l3_law_winners : SM :=
    (sFgt [3, 4, 5] (sIf (mB (mOp fGt (mUn fLen (mVar 2)) (mC (.int 1)))) (sSeq (sAsg (mLst lNil) (Py.gName 4))
    (sSeq (sFor (Py.iRng1 (mOp fDiv (mUn fLen (mVar 2)) (mC (.int 2)))) (Py.gName 5) l2_law_winners)
    (sAsg (mVar 4) (Py.gName 2)))) sNext))
noncomputable def b_law_winners : SM :=
    (sSeq (sAsg (mLc (iSeq (mFrz (mVar 1))) (Py.gName 6) [6] tYes e1_law_winners) (Py.gName 2))
    (sSeq (sFor (Py.iRng1 (mC (.int 3))) (Py.gName 3) l3_law_winners)
    (sRet (mOp fIx (mVar 2) (mC (.int 0))))))
noncomputable def d_law_winners : Den := mkDen 7 b_law_winners

noncomputable def e1_law_due_k63 : M :=
    (mTup (lCons (mC (.int 0)) (lCons (mC (.int 1)) lNil)))
noncomputable def l2_law_due_k63 : SM :=
    (sFgt [5, 6] (sSetIx 4 (mVar 5) (mCall d_law_fraction [.v (mVar 6), .v (mVar 3)])))
noncomputable def b_law_due_k63 : SM :=
    (sSeq (sAsg (mCall d_law_winners [.v (mVar 0), .v (mVar 1)]) (Py.gTup [2, 3]))
    (sSeq (sAsg (mLc (iSeq (mFrz (mVar 1))) (Py.gName 5) [5] tYes e1_law_due_k63) (Py.gName 4))
    (sSeq (sFor (iSeq (mFrz (mVar 2))) (Py.gTup [5, 6]) l2_law_due_k63)
    (sRet (mUn fTuple (mVar 4))))))
noncomputable def d_law_due_k63 : Den := mkDen 7 b_law_due_k63

noncomputable def l1_law_right_k63 : SM :=
    (sFgt [6] (sAsg (mTup (lCons (mOp fAdd (mOp fMul (mOp fIx (mVar 5) (mC (.int 0))) (mOp fIx (mVar 6) (mC (.int 1)))) (mOp fMul (mOp fIx (mVar 6) (mC (.int 0))) (mOp fIx (mVar 5) (mC (.int 1))))) (lCons (mOp fMul (mOp fIx (mVar 5) (mC (.int 1))) (mOp fIx (mVar 6) (mC (.int 1)))) lNil))) (Py.gName 5)))
noncomputable def l2_law_right_k63 : SM :=
    (sFgt [10] (sIf (mNot (mTru (mCall (d_law_same 40) [.v (mCall d_to_win [.v (mVar 1), .v (mVar 10)]), .v (mVar 4)]))) (sRet (mC (.bool false))) sNext))
noncomputable def b_law_right_k63 : SM :=
    (sSeq (sAsg (mUn fLen (mVar 1)) (Py.gName 2))
    (sSeq (sAsg (mCall d_law_order_k63 [.r 0, .v (mVar 2)]) (Py.gName 3))
    (sSeq (sAsg (mCall d_law_due_k63 [.v (mVar 1), .v (mVar 3)]) (Py.gName 4))
    (sSeq (sIf (mNot (mTru (mCall (d_law_same 40) [.v (mCall d_to_win [.v (mVar 1), .v (mVar 3)]), .v (mVar 4)]))) (sRet (mC (.bool false))) sNext)
    (sSeq (sAsg (mTup (lCons (mC (.int 0)) (lCons (mC (.int 1)) lNil))) (Py.gName 5))
    (sSeq (sFor (iSeq (mFrz (mVar 4))) (Py.gName 6) l1_law_right_k63)
    (sSeq (sIf (mB (mOp fNe (mOp fIx (mVar 5) (mC (.int 0))) (mOp fIx (mVar 5) (mC (.int 1))))) (sRet (mC (.bool false))) sNext)
    (sSeq (sAsg (mUn fList (mVar 3)) (Py.gName 7))
    (sSeq (sExpr (mReverse 7))
    (sSeq (sAsg (mOp fDiv (mVar 2) (mC (.int 2))) (Py.gName 8))
    (sSeq (sAsg (mOp fAdd (mUn fRevT (mSl (mVar 3) oNone (oSome (mC (.int 2))))) (mSl (mVar 3) (oSome (mC (.int 2))) oNone)) (Py.gName 9))
    (sSeq (sFor (iSeq (mLst (lCons (mUn fTuple (mVar 7)) (lCons (mOp fAdd (mSl (mVar 3) (oSome (mVar 8)) oNone) (mSl (mVar 3) oNone (oSome (mVar 8)))) (lCons (mVar 9) lNil))))) (Py.gName 10) l2_law_right_k63)
    (sSeq (sAsg (mCall d_law_order_k63 [.r 0, .v (mVar 2)]) (Py.gName 10))
    (sRet (mAndV (mCall (d_law_same 40) [.v (mCall d_to_win [.v (mVar 1), .v (mVar 10)]), .v (mCall d_law_due_k63 [.v (mVar 1), .v (mVar 10)])]) (mCall (d_law_same 40) [.v (mCall d_to_win [.v (mVar 1), .v (mVar 3)]), .v (mVar 4)]))))))))))))))))
noncomputable def d_law_right_k63 : Den := mkDen 11 b_law_right_k63

noncomputable def e1_halves_k64_2 : M :=
    (mOp fAdd (mVar 3) (mTup (lCons (mVar 2) lNil)))
noncomputable def t2_halves_k64_2 : MT :=
    (mB (mOp fLt (mUn fLen (mVar 3)) (mOp fDiv (mUn fLen (mVar 0)) (mC (.int 2)))))
noncomputable def l3_halves_k64_2 : SM :=
    (sFgt [2] (sAugL 1 (mLcH 1 (Py.gName 3) [3] t2_halves_k64_2 e1_halves_k64_2)))
noncomputable def e4_halves_k64_2 : M :=
    (mVar 3)
noncomputable def t5_halves_k64_2 : MT :=
    (mB (mOp fEq (mUn fLen (mVar 3)) (mOp fDiv (mUn fLen (mVar 0)) (mC (.int 2)))))
noncomputable def b_halves_k64_2 : SM :=
    (sSeq (sAsg (mLst (lCons (mSl (mVar 0) oNone (oSome (mC (.int 1)))) lNil)) (Py.gName 1))
    (sSeq (sFor (iSeq (mSl (mVar 0) (oSome (mC (.int 1))) oNone)) (Py.gName 2) l3_halves_k64_2)
    (sRet (mLcH 1 (Py.gName 3) [3] t5_halves_k64_2 e4_halves_k64_2))))
noncomputable def d_halves_k64_2 : Den := mkDen 4 b_halves_k64_2

noncomputable def e1_unlike_places_k64_2 (self : Den) : M :=
    (mVar 6)
noncomputable def t2_unlike_places_k64_2 (self : Den) : MT :=
    (mB (mOp (fIn true) (mVar 6) (mVar 2)))
noncomputable def e3_unlike_places_k64_2 (self : Den) : M :=
    (mOp fAdd (mVar 4) (mVar 5))
noncomputable def i4_unlike_places_k64_2 (self : Den) : MI :=
    (iSeq (mCall self [.v (mVar 3)]))
noncomputable def l5_unlike_places_k64_2 (self : Den) : SM :=
    (sFgt [2, 3] (sSeq (sAsg (mUn fTuple (mLc (iSeq (mFrz (mVar 0))) (Py.gName 6) [6] (t2_unlike_places_k64_2 self) (e1_unlike_places_k64_2 self))) (Py.gName 3))
    (sAugL 1 (mLc2 (iSeq (mCall self [.v (mVar 2)])) (Py.gName 4) [4, 5] tYes (i4_unlike_places_k64_2 self) (Py.gName 5) [5] tYes (e3_unlike_places_k64_2 self)))))
noncomputable def b_unlike_places_k64_2 (self : Den) : SM :=
    (sSeq (sIf (mB (mOp fEq (mUn fLen (mVar 0)) (mC (.int 1)))) (sRet (mLst (lCons (mVar 0) lNil))) sNext)
    (sSeq (sAsg (mLst lNil) (Py.gName 1))
    (sSeq (sFor (iSeq (mCall d_halves_k64_2 [.v (mVar 0)])) (Py.gName 2) (l5_unlike_places_k64_2 self))
    (sRet (mVar 1)))))
noncomputable def d_unlike_places_k64_2 : Nat → Den
  | 0 => fun _ => none
  | n + 1 => mkDen 7 (b_unlike_places_k64_2 (d_unlike_places_k64_2 n))

noncomputable def l1_best_places_k64 : SM :=
    (sFgt [3, 4] (sSeq (sAsg (mOp fIx (mCall d_to_win [.v (mVar 0), .v (mVar 3)]) (mVar 1)) (Py.gName 4))
    (sIf (mOr (mB (mOp (fIs false) (mVar 2) (mC .none))) (mTru (mCall d_is_less [.v (mOp fIx (mVar 2) (mC (.int 0))), .v (mVar 4)]))) (sAsg (mTup (lCons (mVar 4) (lCons (mVar 3) lNil))) (Py.gName 2)) sNext)))
noncomputable def b_best_places_k64 : SM :=
    (sSeq (sAsg (mC .none) (Py.gName 2))
    (sSeq (sFor (iSeq (mUn fSortedT (mCall (d_unlike_places_k64_2 40) [.v (mTupR1 (mUn fLen (mVar 0)))]))) (Py.gName 3) l1_best_places_k64)
    (sRet (mVar 2))))
noncomputable def d_best_places_k64 : Den := mkDen 5 b_best_places_k64

noncomputable def l1_law_orders : SM :=
    (sFgt [5] (sIf (mB (mOp (fIn true) (mVar 5) (mVar 4))) (sExpr (mAppend 3 (mOp fAdd (mVar 4) (mTup (lCons (mVar 5) lNil))))) sNext))
noncomputable def l2_law_orders : SM :=
    (sFgt [4, 5] (sFor (Py.iRng1 (mVar 0)) (Py.gName 5) l1_law_orders))
noncomputable def l3_law_orders : SM :=
    (sFgt [2, 3, 4, 5] (sSeq (sAsg (mLst lNil) (Py.gName 3))
    (sSeq (sFor (iSeq (mFrz (mVar 1))) (Py.gName 4) l2_law_orders)
    (sAsg (mVar 3) (Py.gName 1)))))
noncomputable def b_law_orders : SM :=
    (sSeq (sAsg (mLst (lCons (mTup lNil) lNil)) (Py.gName 1))
    (sSeq (sFor (Py.iRng1 (mVar 0)) (Py.gName 2) l3_law_orders)
    (sRet (mVar 1))))
noncomputable def d_law_orders : Den := mkDen 6 b_law_orders

noncomputable def e1_law_best_of_all : M :=
    (mOp fIx (mVar 7) (mC (.int 1)))
noncomputable def t2_law_best_of_all : MT :=
    (mB (mOp fEq (mOp fIx (mVar 7) (mC (.int 0))) (mVar 1)))
noncomputable def l3_law_best_of_all : SM :=
    (sFgt [3, 4, 5, 6] (sSeq (sAsg (mCall d_law_winners [.v (mVar 0), .v (mVar 3)]) (Py.gTup [4, 5]))
    (sSeq (sAsg (mUn fSum (mLc (iSeq (mFrz (mVar 4))) (Py.gName 7) [7] t2_law_best_of_all e1_law_best_of_all)) (Py.gName 6))
    (sIf (mOr (mB (mOp (fIs false) (mVar 2) (mC .none))) (mB (mOp fGt (mOp fMul (mVar 6) (mOp fIx (mVar 2) (mC (.int 1)))) (mOp fMul (mOp fIx (mVar 2) (mC (.int 0))) (mVar 5))))) (sAsg (mTup (lCons (mVar 6) (lCons (mVar 5) (lCons (mVar 3) lNil)))) (Py.gName 2)) sNext))))
noncomputable def b_law_best_of_all : SM :=
    (sSeq (sAsg (mC .none) (Py.gName 2))
    (sSeq (sFor (iSeq (mCall d_law_orders [.v (mUn fLen (mVar 0))])) (Py.gName 3) l3_law_best_of_all)
    (sRet (mTup (lCons (mCall d_law_fraction [.v (mOp fIx (mVar 2) (mC (.int 0))), .v (mOp fIx (mVar 2) (mC (.int 1)))]) (lCons (mOp fIx (mVar 2) (mC (.int 2))) lNil))))))
noncomputable def d_law_best_of_all : Den := mkDen 8 b_law_best_of_all

noncomputable def b_law_fours : SM :=
    (sSeq (sAsg (mVar 0) (Py.gTup [1, 2, 3, 4]))
    (sRet (mLst (lCons (mTup (lCons (mVar 1) (lCons (mVar 2) (lCons (mVar 3) (lCons (mVar 4) lNil))))) (lCons (mTup (lCons (mVar 1) (lCons (mVar 3) (lCons (mVar 2) (lCons (mVar 4) lNil))))) (lCons (mTup (lCons (mVar 1) (lCons (mVar 4) (lCons (mVar 2) (lCons (mVar 3) lNil))))) lNil))))))
noncomputable def d_law_fours : Den := mkDen 5 b_law_fours

noncomputable def l1_law_four_chances : SM :=
    (sFgt [3, 4, 5, 6, 7, 8] (sSeq (sAsg (mOp fIx (mVar 1) (mVar 3)) (Py.gName 4))
    (sSeq (sAsg (mOp fIx (mVar 1) (mOp fIx (mLst (lCons (mC (.int 1)) (lCons (mC (.int 0)) (lCons (mC (.int 3)) (lCons (mC (.int 2)) lNil))))) (mVar 3))) (Py.gName 5))
    (sSeq (sAsg (mLst (lCons (mOp fIx (mVar 1) (mC (.int 2))) (lCons (mOp fIx (mVar 1) (mC (.int 3))) lNil))) (Py.gName 6))
    (sSeq (sIf (mB (mOp fGt (mVar 3) (mC (.int 1)))) (sAsg (mLst (lCons (mOp fIx (mVar 1) (mC (.int 0))) (lCons (mOp fIx (mVar 1) (mC (.int 1))) lNil))) (Py.gName 6)) sNext)
    (sSeq (sAsg (mOp fMul (mOp fIx (mOp fIx (mVar 0) (mOp fIx (mVar 6) (mC (.int 0)))) (mOp fIx (mVar 6) (mC (.int 1)))) (mOp fIx (mOp fIx (mVar 0) (mVar 4)) (mOp fIx (mVar 6) (mC (.int 0))))) (Py.gName 7))
    (sSeq (sAsg (mOp fMul (mOp fIx (mOp fIx (mVar 0) (mOp fIx (mVar 6) (mC (.int 1)))) (mOp fIx (mVar 6) (mC (.int 0)))) (mOp fIx (mOp fIx (mVar 0) (mVar 4)) (mOp fIx (mVar 6) (mC (.int 1))))) (Py.gName 8))
    (Py.sDput 2 (mVar 4) (mOp fMul (mOp fIx (mOp fIx (mVar 0) (mVar 4)) (mVar 5)) (mOp fAdd (mVar 7) (mVar 8)))))))))))
noncomputable def b_law_four_chances : SM :=
    (sSeq (sAsg mDct0 (Py.gName 2))
    (sSeq (sFor (Py.iRng1 (mC (.int 4))) (Py.gName 3) l1_law_four_chances)
    (sRet (mVar 2))))
noncomputable def d_law_four_chances : Den := mkDen 9 b_law_four_chances

noncomputable def e1_law_best_of_eight_k64 : M :=
    (mVar 18)
noncomputable def t2_law_best_of_eight_k64 : MT :=
    (mB (mOp (fIn true) (mVar 18) (mVar 15)))
noncomputable def l3_law_best_of_eight_k64 : SM :=
    (sFgt [7] (sExpr (mAppend 3 (mTup (lCons (mVar 6) (lCons (mVar 7) lNil))))))
noncomputable def l4_law_best_of_eight_k64 : SM :=
    (sFgt [6, 7] (sFor (iSeq (mCall d_law_fours [.v (mVar 16)])) (Py.gName 7) l3_law_best_of_eight_k64))
noncomputable def l5_law_best_of_eight_k64 : SM :=
    (sFgt [6, 7, 14, 15, 16] (sSeq (sAsg (mTup (lCons (mC (.int 0)) (lCons (mVar 4) (lCons (mVar 8) (lCons (mVar 14) lNil))))) (Py.gName 15))
    (sSeq (sAsg (mUn fTuple (mLc (Py.iRng1 (mC (.int 8))) (Py.gName 18) [18] t2_law_best_of_eight_k64 e1_law_best_of_eight_k64)) (Py.gName 16))
    (sFor (iSeq (mCall d_law_fours [.v (mVar 15)])) (Py.gName 6) l4_law_best_of_eight_k64))))
noncomputable def l6_law_best_of_eight_k64 : SM :=
    (sFgt [6, 7, 8, 14, 15, 16] (sFor (Py.iRng2 (mOp fAdd (mVar 8) (mC (.int 1))) (mC (.int 8))) (Py.gName 14) l5_law_best_of_eight_k64))
noncomputable def l7_law_best_of_eight_k64 : SM :=
    (sFgt [4, 6, 7, 8, 14, 15, 16] (sFor (Py.iRng2 (mOp fAdd (mVar 4) (mC (.int 1))) (mC (.int 8))) (Py.gName 8) l6_law_best_of_eight_k64))
noncomputable def e8_law_best_of_eight_k64 : M :=
    (mOp fMul (mOp fDget (mVar 11) (mVar 17)) (mOp fIx (mOp fIx (mVar 0) (mVar 2)) (mVar 17)))
noncomputable def l9_law_best_of_eight_k64 : SM :=
    (sFgt [6, 7, 9, 10, 11, 12, 13] (sSeq (sAsg (mVar 6) (Py.gName 9))
    (sSeq (sAsg (mVar 7) (Py.gName 10))
    (sSeq (sIf (mB (mOp (fIn false) (mVar 2) (mVar 7))) (sSeq (sAsg (mVar 7) (Py.gName 9))
    (sAsg (mVar 6) (Py.gName 10))) sNext)
    (sSeq (sAsg (mCall d_law_four_chances [.v (mVar 0), .v (mVar 10)]) (Py.gName 11))
    (sSeq (sAsg (mUn fSum (mLc (iSeq (mFrz (mVar 10))) (Py.gName 17) [17] tYes e8_law_best_of_eight_k64)) (Py.gName 12))
    (sSeq (sAsg (mOp fMul (mOp fDget (mCall d_law_four_chances [.v (mVar 0), .v (mVar 9)]) (mVar 2)) (mVar 12)) (Py.gName 13))
    (sIf (mOr (mB (mOp (fIs false) (mVar 5) (mC .none))) (mB (mOp fGt (mVar 13) (mOp fIx (mVar 5) (mC (.int 0)))))) (sAsg (mTup (lCons (mVar 13) (lCons (mOp fAdd (mVar 6) (mVar 7)) lNil))) (Py.gName 5)) sNext))))))))
noncomputable def b_law_best_of_eight_k64 : SM :=
    (sSeq (sAsg (mLst lNil) (Py.gName 3))
    (sSeq (sFor (Py.iRng2 (mC (.int 1)) (mC (.int 8))) (Py.gName 4) l7_law_best_of_eight_k64)
    (sSeq (sAsg (mC .none) (Py.gName 5))
    (sSeq (sFor (iSeq (mUn fSortedR (mVar 3))) (Py.gTup [6, 7]) l9_law_best_of_eight_k64)
    (sRet (mTup (lCons (mCall d_law_fraction [.v (mOp fIx (mVar 5) (mC (.int 0))), .v (mOp fMul (mOp fMul (mOp fMul (mOp fMul (mOp fMul (mOp fMul (mVar 1) (mVar 1)) (mVar 1)) (mVar 1)) (mVar 1)) (mVar 1)) (mVar 1))]) (lCons (mOp fIx (mVar 5) (mC (.int 1))) lNil))))))))
noncomputable def d_law_best_of_eight_k64 : Den := mkDen 19 b_law_best_of_eight_k64

noncomputable def e1_law_eight_is_right_k64_2 : M :=
    (mOp fMul (mOp fIx (mVar 6) (mC (.int 0))) (mOp fDiv (mVar 1) (mOp fIx (mVar 6) (mC (.int 1)))))
noncomputable def e2_law_eight_is_right_k64_2 : M :=
    (mLc (iSeq (mFrz (mVar 5))) (Py.gName 6) [6] tYes e1_law_eight_is_right_k64_2)
noncomputable def b_law_eight_is_right_k64_2 : SM :=
    (sSeq (sAsg (mOp fAdd (mC (.int 1)) (mCall d_law_take [.r 0, .v (mC (.int 6))])) (Py.gName 1))
    (sSeq (sAsg (mCall d_law_ladder [.r 0, .v (mC (.int 8)), .v (mVar 1)]) (Py.gName 2))
    (sSeq (sAsg (mLc (iSeq (mFrz (mVar 2))) (Py.gName 5) [5] tYes e2_law_eight_is_right_k64_2) (Py.gName 3))
    (sSeq (sAsg (mCall d_law_take [.r 0, .v (mC (.int 8))]) (Py.gName 4))
    (sRet (mCall (d_law_same 40) [.v (mCall d_best_places_k64 [.v (mVar 2), .v (mVar 4)]), .v (mCall d_law_best_of_eight_k64 [.v (mVar 3), .v (mVar 1), .v (mVar 4)])]))))))
noncomputable def d_law_eight_is_right_k64_2 : Den := mkDen 7 b_law_eight_is_right_k64_2

noncomputable def l1_law_k64_3 : SM :=
    (sFgt [5] (sIf (mNot (mTru (mCall (d_law_same 40) [.v (mCall d_best_places_k64 [.v (mVar 4), .v (mVar 5)]), .v (mCall d_law_best_of_all [.v (mVar 4), .v (mVar 5)])]))) (sRet (mC (.bool false))) sNext))
noncomputable def e2_law_k64_3 : M :=
    (mOp fIx (mLst (lCons (mVar 6) (lCons (mTup (lCons (mC (.int 0)) (lCons (mC (.int 1)) lNil))) lNil))) (mUn fInt (mOp fEq (mVar 9) (mVar 10))))
noncomputable def e3_law_k64_3 : M :=
    (mUn fTuple (mLc (Py.iRng1 (mC (.int 4))) (Py.gName 10) [10] tYes e2_law_k64_3))
noncomputable def b_law_k64_3 : SM :=
    (sSeq (sAsg (mCall d_law_draws [.v (mVar 0), .v (mC (.int 120))]) (Py.gName 1))
    (sSeq (sAsg (mOp fIx (mLst (lCons (mC (.int 1)) (lCons (mC (.int 2)) (lCons (mC (.int 4)) (lCons (mC (.int 4)) lNil))))) (mCall d_law_take [.r 1, .v (mC (.int 4))])) (Py.gName 2))
    (sSeq (sAsg (mOp fAdd (mC (.int 1)) (mCall d_law_take [.r 1, .v (mOp fIx (mLst (lCons (mC (.int 2)) (lCons (mC (.int 12)) (lCons (mC (.int 30)) lNil)))) (mCall d_law_take [.r 1, .v (mC (.int 3))]))])) (Py.gName 3))
    (sSeq (sIf (mB (mOp fEq (mCall d_law_take [.r 1, .v (mC (.int 8))]) (mC (.int 1)))) (sAsg (mOp fSub (mOp fSub (mOp fPow (mC (.int 10)) (mC (.int 29))) (mC (.int 1))) (mOp fMod (mUn fInt (mOp fAdd (mUn fAbs (mCall d_law_cell [.v (mVar 0), .v (mCall d_law_take [.r 1, .v (mC (.int 63))])])) (mCall d_law_take [.r 1, .v (mC (.int 1000))]))) (mOp fPow (mC (.int 10)) (mC (.int 28))))) (Py.gName 3)) sNext)
    (sSeq (sAsg (mCall d_law_ladder [.r 1, .v (mVar 2), .v (mVar 3)]) (Py.gName 4))
    (sSeq (sFor (Py.iRng1 (mVar 2)) (Py.gName 5) l1_law_k64_3)
    (sSeq (sAsg (mCall d_law_take [.r 1, .v (mVar 2)]) (Py.gName 5))
    (sSeq (sIf (mNot (mTru (mCall (d_law_same 40) [.v (mCall d_best_places_k64 [.v (mVar 4), .v (mVar 5)]), .v (mCall d_law_best_of_all [.v (mVar 4), .v (mVar 5)])]))) (sRet (mC (.bool false))) sNext)
    (sSeq (sIf (mAnd (mB (mOp fEq (mCall d_law_take [.r 1, .v (mC (.int 8))]) (mC (.int 3)))) (mNot (mTru (mCall d_law_eight_is_right_k64_2 [.r 1])))) (sRet (mC (.bool false))) sNext)
    (sSeq (sAsg (mTup (lCons (mC (.int 1)) (lCons (mC (.int 2)) lNil))) (Py.gName 6))
    (sSeq (sAsg (mUn fTuple (mLc (Py.iRng1 (mC (.int 4))) (Py.gName 9) [9] tYes e3_law_k64_3)) (Py.gName 7))
    (sSeq (sIf (mNot (mTru (mCall (d_law_same 40) [.v (mCall d_best_places_k64 [.v (mVar 7), .v (mC (.int 2))]), .v (mTup (lCons (mTup (lCons (mC (.int 1)) (lCons (mC (.int 4)) lNil))) (lCons (mTup (lCons (mC (.int 0)) (lCons (mC (.int 1)) (lCons (mC (.int 2)) (lCons (mC (.int 3)) lNil))))) lNil)))]))) (sRet (mC (.bool false))) sNext)
    (sSeq (sAsg (mTup (lCons (mTup (lCons (mTup (lCons (mC (.int 0)) (lCons (mC (.int 1)) lNil))) (lCons (mTup (lCons (mC (.int 1)) (lCons (mC (.int 1)) lNil))) (lCons (mTup (lCons (mC (.int 1)) (lCons (mC (.int 1)) lNil))) (lCons (mTup (lCons (mC (.int 0)) (lCons (mC (.int 1)) lNil))) lNil))))) (lCons (mTup (lCons (mTup (lCons (mC (.int 0)) (lCons (mC (.int 1)) lNil))) (lCons (mTup (lCons (mC (.int 0)) (lCons (mC (.int 1)) lNil))) (lCons (mTup (lCons (mC (.int 1)) (lCons (mC (.int 1)) lNil))) (lCons (mTup (lCons (mC (.int 1)) (lCons (mC (.int 1)) lNil))) lNil))))) (lCons (mTup (lCons (mTup (lCons (mC (.int 0)) (lCons (mC (.int 1)) lNil))) (lCons (mTup (lCons (mC (.int 0)) (lCons (mC (.int 1)) lNil))) (lCons (mTup (lCons (mC (.int 0)) (lCons (mC (.int 1)) lNil))) (lCons (mTup (lCons (mC (.int 1)) (lCons (mC (.int 1)) lNil))) lNil))))) (lCons (mTup (lCons (mTup (lCons (mC (.int 1)) (lCons (mC (.int 1)) lNil))) (lCons (mTup (lCons (mC (.int 0)) (lCons (mC (.int 1)) lNil))) (lCons (mTup (lCons (mC (.int 0)) (lCons (mC (.int 1)) lNil))) (lCons (mTup (lCons (mC (.int 0)) (lCons (mC (.int 1)) lNil))) lNil))))) lNil))))) (Py.gName 8))
    (sRet (mAndV (mCall (d_law_same 40) [.v (mCall d_best_places_k64 [.v (mVar 8), .v (mC (.int 0))]), .v (mTup (lCons (mTup (lCons (mC (.int 1)) (lCons (mC (.int 1)) lNil))) (lCons (mTup (lCons (mC (.int 0)) (lCons (mC (.int 1)) (lCons (mC (.int 2)) (lCons (mC (.int 3)) lNil))))) lNil)))]) (mCall (d_law_same 40) [.v (mCall d_best_places_k64 [.v (mVar 8), .v (mC (.int 1))]), .v (mTup (lCons (mTup (lCons (mC (.int 1)) (lCons (mC (.int 1)) lNil))) (lCons (mTup (lCons (mC (.int 0)) (lCons (mC (.int 3)) (lCons (mC (.int 1)) (lCons (mC (.int 2)) lNil))))) lNil)))]))))))))))))))))
noncomputable def d_law_k64_3 : Den := mkDen 11 b_law_k64_3

noncomputable def l1_to_meet (self : Den) : SM :=
    (sFgt [6] (sIf (mAnd (mB (mOp (fIn false) (mVar 2) (mVar 6))) (mB (mOp (fIn false) (mVar 3) (mVar 6)))) (sRet (mCall self [.v (mVar 0), .v (mVar 6), .v (mVar 2), .v (mVar 3)])) sNext))
noncomputable def b_to_meet (self : Den) : SM :=
    (sSeq (sAsg (mOp fDiv (mUn fLen (mVar 1)) (mC (.int 2))) (Py.gName 4))
    (sSeq (sAsg (mTup (lCons (mSl (mVar 1) oNone (oSome (mVar 4))) (lCons (mSl (mVar 1) (oSome (mVar 4)) oNone) lNil))) (Py.gName 5))
    (sSeq (sFor (iSeq (mFrz (mVar 5))) (Py.gName 6) (l1_to_meet self))
    (sSeq (sAsg (mUn fDictL (mOp fAdd (mCall (d_winners 40) [.v (mVar 0), .v (mOp fIx (mVar 5) (mC (.int 0)))]) (mCall (d_winners 40) [.v (mVar 0), .v (mOp fIx (mVar 5) (mC (.int 1)))]))) (Py.gName 7))
    (sRet (mCall d_times [.v (mOp fDget (mVar 7) (mVar 2)), .v (mOp fDget (mVar 7) (mVar 3))]))))))
noncomputable def d_to_meet : Nat → Den
  | 0 => fun _ => none
  | n + 1 => mkDen 8 (b_to_meet (d_to_meet n))

end D
namespace Py
open PySem D
local macro_rules
  | `(tactic| walk_at "w") => `(tactic| with_reducible first
    | refine seq_nx ?_ | refine seq_rt ?_ | refine seq_bk ?_ | refine seq_ct ?_ | refine wp_seq ?_ | refine wp_asg ?_ | refine wp_next ?_ | refine wp_ret ?_ | refine wp_retN ?_ | refine wp_brk ?_ | refine wp_cont ?_ | refine wp_expr ?_ | refine wp_op ?_ | refine wp_un ?_ | refine wp_c ?_
    | refine unB ?_ | refine wp_truB ?_ | refine wp_and ?_ | refine wp_or ?_ | refine wp_not ?_ | refine wp_ifE ?_ | refine wp_tup ?_ | refine wp_lst ?_ | refine wp_lcons ?_ | refine wp_lnil ?_ | refine frzV ?_ | refine frzN ?_ | refine wp_frz ?_ | refine wp_sl ?_ | refine wp_onone ?_ | refine wp_osome ?_
    | refine wp_anil ?_ | refine wp_av ?_ | refine wp_andV ?_ | refine wp_orV ?_ | refine wp_notV ?_ | refine wp_fgtR ?_ | refine turn_nx ?_ | refine turn_rt ?_ | refine turn_bk ?_ | refine turn_ct ?_ | refine fgt_rt ?_ | refine wp_par ?_ | refine wp_chain ?_ | refine wp_seqI ?_)
local macro_rules
  | `(tactic| walk_at "put") => `(tactic| focus ((repeat apply PutR.s); exact PutR.z rfl))
local macro_rules
  | `(tactic| walk_at "set") => `(tactic| focus ((repeat apply SetR.s); first | exact SetR.o | exact SetR.r))
local macro_rules
  | `(tactic| walk_at "fgt") => `(tactic| focus (repeat first | exact FgtsR.nil | exact FgtR.k | exact FgtR.z rfl | apply FgtR.s | apply FgtsR.cons))
local macro_rules
  | `(tactic| walk_at "x") => `(tactic| first
    | ((with_reducible apply wp_varV); (focus exact rfl)) | ((with_reducible apply wp_varO); (focus exact rfl)) | ((with_reducible apply wp_varR); (focus exact rfl))
    | ((with_reducible apply opq); (focus exact rfl); (focus exact rfl); (focus (first | exact ev_eqI | exact ev_neI | exact ev_ltI | exact ev_leI | exact ev_gtI | exact ev_geI | exact rfl)))
    | ((with_reducible apply unq); (focus exact rfl); (focus exact rfl))
    | ((with_reducible first | apply putqV | apply putqN); walk_at "put")
    | ((with_reducible apply putq2); walk_at "put"; walk_at "put")
    | ((with_reducible apply parq); walk_at "put"; walk_at "put")
    | ((with_reducible apply wp_callR); (focus (repeat first | exact RefsR.nil | apply RefsR.v | apply RefsR.r)); (focus decide))
    | ((with_reducible apply wp_ar); (focus exact rfl))
    | ((with_reducible apply fin_rt); (focus exact rfl); (focus exact rfl))
    | ((with_reducible apply fin_nx); (focus exact rfl))
    | ((with_reducible apply wp_appendR); (focus exact rfl))
    | (with_reducible refine ⟨_, rfl, ?_⟩) | (with_reducible refine ⟨_, .inl rfl, ?_⟩) | (with_reducible refine ⟨_, .inr (.inl rfl), ?_⟩) | (with_reducible refine ⟨_, .inr (.inr rfl), ?_⟩)
    | (with_reducible apply callq0) | ((with_reducible apply frzB); (focus exact rfl); (focus exact rfl); walk_at "put")
    | ((with_reducible apply callq1); walk_at "set")
    | ((with_reducible apply callq2); walk_at "set"; walk_at "set")
    | ((with_reducible first | apply fgt_nx | apply fgt_bk | apply fgt_ct); walk_at "fgt")
    | ((with_reducible apply brT); (focus exact rfl)) | ((with_reducible apply brF); (focus exact rfl)))
local macro_rules
  | `(tactic| walk_at "r") => `(tactic| repeat first | walk_at "w" | walk_at "x")
local macro_rules
  | `(tactic| walk_at "ri") => `(tactic| repeat first | walk_at "w" | walk_at "x" | (with_reducible refine wp_if ?_))
local macro_rules
  | `(tactic| walk_at "app") => `(tactic| ((with_reducible apply appq); (focus exact rfl); (focus ((try simp only [List.length_map, List.length_nil, List.length_cons, List.length_append]); unfold line; omega)); walk_at "set"))
local macro_rules
  | `(tactic| walk_at "mul") => `(tactic| ((refine opq rfl rfl (ev_mul ?_) ?_); (focus (apply mulT <;> omega))))
local macro_rules
  | `(tactic| walk_at "rm") => `(tactic| repeat first | walk_at "w" | walk_at "x" | walk_at "mul")
local macro_rules
  | `(tactic| walk_at "len") => `(tactic| (refine And.intro ?_ ?_; (focus (simp [line]; done))))
def intsO (ns : List Int) : Ob := .lst (ns.map PyData.int)
theorem of_take {ds : List Int} {m : Int} (hm : 0 < m) {Q : R → List Ob → Prop} (k : ∀ x ds', 0 ≤ x → x < m → Q (.val (.int x)) [intsO ds']) : Ret d_law_take [.ref (intsO ds), .val (.int m)] Q := by
  refine ret_mkR (by repeat constructor) ?_
  unfold b_law_take
  walk_at "ri"
  refine branchD (fun h => ?_) fun h => ?_
  · walk_at "ri"
    exact k 0 ds (by omega) hm
  walk_at "ri"
  rcases List.eq_nil_or_concat ds with rfl | ⟨L, b, rfl⟩
  · exact absurd rfl h
  refine wp_popR (v := .int b) (xs := (L.concat b).map PyData.int) rfl (by simp) (SetR.r) ?_
  walk_at "ri"
  refine opq rfl rfl (ev_mod (by omega)) ?_
  walk_at "ri"
  have e : (List.map PyData.int (L.concat b)).dropLast = L.map PyData.int := by simp
  rw [e]
  exact k _ L (Int.fmod_nonneg_of_pos _ hm) (Int.fmod_lt_of_pos _ hm)
theorem of_cell {ns : List Int} {i : Int} {N : Nat} {Q : R → List Ob → Prop} (k : ∀ x, (x = 0 ∨ x ∈ ns) → Q (.val (.int x)) []) : Ret d_law_cell [.val (.list (ns.map PyData.int)), .val (.int i)] Q := by
  refine ret_mkR (by repeat constructor) ?_
  unfold b_law_cell
  walk_at "ri"
  refine branchD (fun h => ?_) fun h => ?_
  · walk_at "ri"
    exact k 0 (.inl rfl)
  walk_at "ri"
  have h' : ((ns.map PyData.int).length : Int) ≠ 0 := h
  refine opq rfl rfl (ev_mod h') ?_
  have h1 := Int.fmod_nonneg_of_pos i (b := (ns.map PyData.int).length) (by omega)
  have h2 := Int.fmod_lt_of_pos i (b := (ns.map PyData.int).length) (by omega)
  obtain ⟨j, hj⟩ := Int.eq_ofNat_of_zero_le h1
  rw [hj] at h2 ⊢
  rw [List.length_map] at h2
  have hj2 : j < ns.length := by omega
  refine opq rfl rfl (ev_ix (.inr (.inl rfl)) (atI_nat (v := .int ns[j]) (by simp [hj2]))) ?_
  walk_at "ri"
  exact k _ (.inr (List.getElem_mem _))

theorem of_divisor {a b : Int} {Q : R → List Ob → Prop} (k : Q (.val (.int (Int.gcd a b))) []) : Ret d_divisor [.val (.int a), .val (.int b)] Q := by
  refine ret_mkR (by repeat constructor) ?_
  unfold b_divisor
  walk_at "ri"
  exact k
/-- a pair as a value -/
def fr (p : Int × Int) : PV := .tuple [.int p.1, .int p.2]
/-- in lowest terms -/
def rat (n d : Int) : Int × Int := let c : Int := if d < 0 then -(Int.gcd n d : Int) else Int.gcd n d; (n.fdiv c, d.fdiv c)
theorem gcd_ne {n d : Int} (h : d ≠ 0) : (Int.gcd n d : Int) ≠ 0 := by
  intro e
  have : Int.gcd n d = 0 := by omega
  exact h (Int.gcd_eq_zero_iff.mp this).2
theorem of_fraction {n d : Int} (hd : d ≠ 0) {Q : R → List Ob → Prop} (k : Q (.val (fr (rat n d))) []) : Ret d_fraction [.val (.int n), .val (.int d)] Q := by
  have hg := gcd_ne (n := n) hd
  refine ret_mkR (by repeat constructor) ?_
  unfold b_fraction
  walk_at "ri"
  refine of_divisor ?_
  walk_at "ri"
  refine branchD (fun h => ?_) fun h => ?_
  · walk_at "ri"
    refine opq rfl rfl (ev_div (by omega)) ?_
    walk_at "ri"
    refine opq rfl rfl (ev_div (by omega)) ?_
    walk_at "ri"
    refine ⟨by simp [line], ?_⟩
    walk_at "ri"
    unfold rat at k
    rw [if_pos h] at k
    exact k
  · walk_at "ri"
    refine opq rfl rfl (ev_div (by omega)) ?_
    walk_at "ri"
    refine opq rfl rfl (ev_div (by omega)) ?_
    walk_at "ri"
    refine ⟨by simp [line], ?_⟩
    walk_at "ri"
    unfold rat at k
    rw [if_neg h] at k
    exact k
/-- within the line of a product -/
def Bd (n : Nat) (p : Int × Int) : Prop := p.1.natAbs < 2 ^ n ∧ p.2.natAbs < 2 ^ n
def okM (p q : Int × Int) : Prop := mulOk p.1 q.2 = true ∧ mulOk q.1 p.2 = true ∧ mulOk p.2 q.2 = true ∧ mulOk p.1 q.1 = true
def plusV (p q : Int × Int) : Int × Int := rat (p.1 * q.2 + q.1 * p.2) (p.2 * q.2)
def minusV (p q : Int × Int) : Int × Int := rat (p.1 * q.2 - q.1 * p.2) (p.2 * q.2)
def timesV (p q : Int × Int) : Int × Int := rat (p.1 * q.1) (p.2 * q.2)
def lessV (p q : Int × Int) : Bool := decide (p.1 * q.2 < q.1 * p.2)
local macro_rules
  | `(tactic| walk_at "m") => `(tactic| ((refine opq rfl rfl (ev_mul ?_) ?_); focus assumption))
local macro_rules
  | `(tactic| walk_at "q") => `(tactic| repeat first | walk_at "w" | walk_at "x" | walk_at "m")
section
variable {p q : Int × Int} {Q : R → List Ob → Prop}
theorem of_plus (hp : p.2 ≠ 0) (hq : q.2 ≠ 0) (h : okM p q) (k : Q (.val (fr (plusV p q))) []) : Ret d_plus [.val (fr p), .val (fr q)] Q := by
  obtain ⟨h1, h2, h3, h4⟩ := h
  refine ret_mkR (by repeat constructor) ?_
  unfold b_plus
  walk_at "q"
  refine of_fraction (Int.mul_ne_zero hp hq) ?_
  walk_at "ri"
  exact k
theorem of_times (hp : p.2 ≠ 0) (hq : q.2 ≠ 0) (h : okM p q) (k : Q (.val (fr (timesV p q))) []) : Ret d_times [.val (fr p), .val (fr q)] Q := by
  obtain ⟨h1, h2, h3, h4⟩ := h
  refine ret_mkR (by repeat constructor) ?_
  unfold b_times
  walk_at "q"
  refine of_fraction (Int.mul_ne_zero hp hq) ?_
  walk_at "ri"
  exact k
theorem of_less (h : okM p q) (k : Q (.val (.bool (lessV p q))) []) : Ret d_is_less [.val (fr p), .val (fr q)] Q := by
  obtain ⟨h1, h2, h3, h4⟩ := h
  refine ret_mkR (by repeat constructor) ?_
  unfold b_is_less
  walk_at "q"
  exact k
end
/-! alike -/
inductive Plain : Nat → PV → Prop
  | none {n : Nat} : Plain (n + 1) .none
  | bool {n : Nat} {b : Bool} : Plain (n + 1) (.bool b)
  | int {n : Nat} {i : Int} : Plain (n + 1) (.int i)
  | str {n : Nat} {s : Str} : Plain (n + 1) (.str s)
  | tuple {n : Nat} {xs : List PV} (hl : xs.length ≤ line) (h : ∀ x, x ∈ xs → Plain n x) : Plain (n + 1) (.tuple xs)
theorem of_same {n : Nat} {v : PV} (hp : Plain n v) : ∀ {Q : R → List Ob → Prop} (k : Q (.val (.bool true)) []), Ret (d_law_same n) [.val v, .val v] Q := by
  induction hp with
  | none =>
    intro Q k
    unfold d_law_same
    refine ret_mkR (by repeat constructor) ?_
    unfold b_law_same
    walk_at "ri"
    exact k
  | @bool n b =>
    intro Q k
    unfold d_law_same
    refine ret_mkR (by repeat constructor) ?_
    unfold b_law_same
    walk_at "ri"
    have e : (false ^^ (b == b)) = true := by simp
    rw [e]
    exact k
  | @int n i =>
    intro Q k
    unfold d_law_same
    refine ret_mkR (by repeat constructor) ?_
    unfold b_law_same
    walk_at "ri"
    have e : decide (i = i) = true := by simp
    rw [e]
    exact k
  | @str n s =>
    intro Q k
    unfold d_law_same
    refine ret_mkR (by repeat constructor) ?_
    unfold b_law_same
    walk_at "ri"
    have e : (false ^^ decide (s = s)) = true := by simp
    rw [e]
    exact k
  | @tuple n xs hl h ih =>
    intro Q k
    unfold d_law_same
    refine ret_mkR (by repeat constructor) ?_
    unfold b_law_same
    walk_at "ri"
    refine brF (by simp) ?_
    walk_at "ri"
    refine wp_forN (fun k ρ => ρ = [some (.val (.tuple xs)), some (.val (.tuple xs)), none]) xs.length ?_ ?_ ?_
    · walk_at "ri"
      exact ⟨rfl, hl, rfl⟩
    · rintro j ρ hj rfl
      unfold l1_law_same
      walk_at "ri"
      refine opq rfl rfl (ev_ix (.inl rfl) (atI_nat (List.getElem?_eq_getElem hj))) ?_
      walk_at "ri"
      refine opq rfl rfl (ev_ix (.inl rfl) (atI_nat (List.getElem?_eq_getElem hj))) ?_
      walk_at "ri"
      refine ih _ (List.getElem_mem hj) ?_
      walk_at "ri"
      rfl
    · rintro ρ rfl
      walk_at "ri"
      exact k
theorem plain_fr {p : Int × Int} {n : Nat} : Plain (n + 2) (fr p) := .tuple (by simp [line]) fun x hx => by
  simp at hx
  rcases hx with rfl | rfl <;> exact .int
end Py
namespace Py
open PySem D
local macro_rules
  | `(tactic| walk_at "w") => `(tactic| with_reducible first
    | refine seq_nx ?_ | refine seq_rt ?_ | refine seq_bk ?_ | refine seq_ct ?_ | refine wp_seq ?_ | refine wp_asg ?_ | refine wp_next ?_ | refine wp_ret ?_ | refine wp_retN ?_ | refine wp_brk ?_ | refine wp_cont ?_ | refine wp_expr ?_ | refine wp_op ?_ | refine wp_un ?_ | refine wp_c ?_
    | refine unB ?_ | refine wp_truB ?_ | refine wp_and ?_ | refine wp_or ?_ | refine wp_not ?_ | refine wp_ifE ?_ | refine wp_tup ?_ | refine wp_lst ?_ | refine wp_lcons ?_ | refine wp_lnil ?_ | refine frzV ?_ | refine frzN ?_ | refine wp_frz ?_ | refine wp_sl ?_ | refine wp_onone ?_ | refine wp_osome ?_
    | refine wp_anil ?_ | refine wp_av ?_ | refine wp_andV ?_ | refine wp_orV ?_ | refine wp_notV ?_ | refine wp_fgtR ?_ | refine turn_nx ?_ | refine turn_rt ?_ | refine turn_bk ?_ | refine turn_ct ?_ | refine fgt_rt ?_ | refine wp_par ?_ | refine wp_chain ?_ | refine wp_seqI ?_)
local macro_rules
  | `(tactic| walk_at "put") => `(tactic| focus ((repeat apply PutR.s); exact PutR.z rfl))
local macro_rules
  | `(tactic| walk_at "set") => `(tactic| focus ((repeat apply SetR.s); first | exact SetR.o | exact SetR.r))
local macro_rules
  | `(tactic| walk_at "fgt") => `(tactic| focus (repeat first | exact FgtsR.nil | exact FgtR.k | exact FgtR.z rfl | apply FgtR.s | apply FgtsR.cons))
local macro_rules
  | `(tactic| walk_at "x") => `(tactic| first
    | ((with_reducible apply wp_varV); (focus exact rfl)) | ((with_reducible apply wp_varO); (focus exact rfl)) | ((with_reducible apply wp_varR); (focus exact rfl))
    | ((with_reducible apply opq); (focus exact rfl); (focus exact rfl); (focus (first | exact ev_eqI | exact ev_neI | exact ev_ltI | exact ev_leI | exact ev_gtI | exact ev_geI | exact rfl)))
    | ((with_reducible apply unq); (focus exact rfl); (focus exact rfl))
    | ((with_reducible first | apply putqV | apply putqN); walk_at "put")
    | ((with_reducible apply putq2); walk_at "put"; walk_at "put")
    | ((with_reducible apply parq); walk_at "put"; walk_at "put")
    | ((with_reducible apply wp_callR); (focus (repeat first | exact RefsR.nil | apply RefsR.v | apply RefsR.r)); (focus decide))
    | ((with_reducible apply wp_ar); (focus exact rfl))
    | ((with_reducible apply fin_rt); (focus exact rfl); (focus exact rfl))
    | ((with_reducible apply fin_nx); (focus exact rfl))
    | ((with_reducible apply wp_appendR); (focus exact rfl))
    | (with_reducible refine ⟨_, rfl, ?_⟩) | (with_reducible refine ⟨_, .inl rfl, ?_⟩) | (with_reducible refine ⟨_, .inr (.inl rfl), ?_⟩) | (with_reducible refine ⟨_, .inr (.inr rfl), ?_⟩)
    | (with_reducible apply callq0) | ((with_reducible apply frzB); (focus exact rfl); (focus exact rfl); walk_at "put")
    | ((with_reducible apply callq1); walk_at "set")
    | ((with_reducible apply callq2); walk_at "set"; walk_at "set")
    | ((with_reducible first | apply fgt_nx | apply fgt_bk | apply fgt_ct); walk_at "fgt")
    | ((with_reducible apply brT); (focus exact rfl)) | ((with_reducible apply brF); (focus exact rfl)))
local macro_rules
  | `(tactic| walk_at "r") => `(tactic| repeat first | walk_at "w" | walk_at "x")
local macro_rules
  | `(tactic| walk_at "ri") => `(tactic| repeat first | walk_at "w" | walk_at "x" | (with_reducible refine wp_if ?_))
local macro_rules
  | `(tactic| walk_at "app") => `(tactic| ((with_reducible apply appq); (focus exact rfl); (focus ((try simp only [List.length_map, List.length_nil, List.length_cons, List.length_append]); unfold line; omega)); walk_at "set"))
local macro_rules
  | `(tactic| walk_at "mul") => `(tactic| ((refine opq rfl rfl (ev_mul ?_) ?_); (focus (apply mulT <;> omega))))
local macro_rules
  | `(tactic| walk_at "rm") => `(tactic| repeat first | walk_at "w" | walk_at "x" | walk_at "mul")
local macro_rules
  | `(tactic| walk_at "len") => `(tactic| (refine And.intro ?_ ?_; (focus (simp [line]; done))))
theorem lenI {xs : List Int} : (List.map PyData.int xs).length = xs.length := List.length_map ..
theorem atI_int {xs : List Int} {j : Nat} (h : j < xs.length) : atI (xs.map PyData.int) (j : Int) = some (.int xs[j]) := atI_nat (by simp [h])
theorem of_draws {ns : List Int} (hb : ∀ z ∈ ns, Builtin.Int.intBits z ≤ 1048576) (hl : ns.length ≤ 63) {m : Nat} (hm : m ≤ 100000) {Q : R → List Ob → Prop} (k : ∀ ds, Q (.new (intsO ds)) []) : Ret d_law_draws [.val (.list (ns.map PyData.int)), .val (.int m)] Q := by
  refine ret_mkR (by repeat constructor) ?_
  unfold b_law_draws
  walk_at "ri"
  refine wp_lc PyData.int (fun done acc ρ => acc = done.map PyData.int ∧ ∃ s, ρ = [some (.val (.list (ns.map PyData.int))), some (.val (.int m)), none, none, none, none, none, none, s]) ?_
  walk_at "ri"
  refine ⟨by unfold line; omega, ⟨rfl, _, rfl⟩, ?_, ?_⟩
  · rintro done y rest acc _ e ⟨rfl, s, rfl⟩
    unfold LcQ
    dsimp only [wipe, set_s, set_z]
    walk_at "ri"
    refine ⟨true, _, rfl, ?_⟩
    refine brT rfl ?_
    unfold e1_law_draws
    walk_at "ri"
    exact ⟨by simp, _, rfl⟩
  rintro _ _ ⟨rfl, s, rfl⟩
  dsimp only [back, set_s, set_z, get_s, get_z]
  walk_at "r"
  refine wp_mid (fun ρ => ∃ cs : List Int, cs ≠ [] ∧ cs.length ≤ 63 ∧ (∀ z ∈ cs, Builtin.Int.intBits z ≤ 1048576) ∧ ρ = [some (.val (.list (ns.map PyData.int))), some (.val (.int m)), some (.own (intsO cs)), none, none, none, none, none, none]) ?_ ?_
  · walk_at "ri"
    refine branchD (fun h => ?_) fun h => ?_
    · walk_at "ri"
      have h0 : ns = [] := by simpa using h
      subst h0
      walk_at "app"
      walk_at "ri"
      exact ⟨rfl, [0], by simp, by simp, by simp; decide, rfl⟩
    · walk_at "ri"
      refine ⟨rfl, ns, fun h0 => h (by simp [h0]), hl, hb, rfl⟩
  rintro _ ⟨cs, hc0, hcl, hcb, rfl⟩
  walk_at "ri"
  have hn : 0 < cs.length := List.length_pos_iff.mpr hc0
  refine ⟨by simp [line], ?_⟩
  walk_at "ri"
  refine wp_forN (fun k ρ => ∃ rs ds : List Int, rs.length = cs.length ∧ ds.length = k ∧ ρ = [some (.val (.list (ns.map PyData.int))), some (.val (.int m)), some (.own (intsO cs)), some (.own (intsO rs)), some (.own (intsO ds)), none, none, none, none]) m ?_ ?_ ?_
  · walk_at "ri"
    exact ⟨rfl, by unfold line; omega, cs, [], rfl, rfl, rfl⟩
  · rintro k _ hk ⟨rs, ds, h1, h2, rfl⟩
    unfold l2_law_draws
    walk_at "ri"
    have hl0 : ((List.map PyData.int cs).length : Int) ≠ 0 := by simp; omega
    refine opq rfl rfl (ev_mod hl0) ?_
    obtain ⟨j, hj, hj2⟩ := fmod_ix (k : Int) (n := (List.map PyData.int cs).length) (by simp; omega)
    rw [hj]
    rw [lenI] at hj2
    walk_at "ri"
    refine opq rfl rfl (ev_ix (.inr (.inr rfl)) (atI_int hj2)) ?_
    walk_at "ri"
    have hj3 : j < rs.length := by omega
    refine branchD (fun h => ?_) fun h => ?_
    · walk_at "ri"
      refine opq rfl rfl (ev_ix (.inr (.inr rfl)) (atI_int hj3)) ?_
      walk_at "ri"
      walk_at "app"
      walk_at "ri"
      refine wp_setIxR ?_
      walk_at "ri"
      refine opq rfl rfl (ev_ix (.inr (.inr rfl)) (atI_int hj3)) ?_
      walk_at "ri"
      apply ixq (j := j) rfl rfl (by rw [lenI]; exact hj3)
      walk_at "set"
      walk_at "ri"
      refine ⟨rs.set j (rs[j].fdiv 1000), ds ++ [rs[j].fmod 1000], by simpa using h1, by simp [h2], ?_⟩
      simp [intsO]
    · walk_at "ri"
      refine opq rfl rfl (ev_ix (.inr (.inr rfl)) (atI_int hj2)) ?_
      walk_at "ri"
      refine opq rfl rfl (ev_mul ?_) ?_
      · exact mulB (n := 16) (hcb _ (List.getElem_mem hj2)) (by decide)
      walk_at "ri"
      refine opq rfl rfl (ev_mul ?_) ?_
      · exact mulOk_of 17 17 (by omega) (by decide)
      walk_at "ri"
      generalize hx : ((cs[j] * 48271 + k * 69621 + 11 : Int)).fmod 2147483647 = x
      have hx1 : 0 ≤ x := by rw [← hx]; exact Int.fmod_nonneg_of_pos _ (by decide)
      have hx2 : x < 2147483647 := by rw [← hx]; exact Int.fmod_lt_of_pos _ (by decide)
      walk_at "ri"
      refine opq rfl rfl (ev_mul (mulOk_of 31 31 (by omega) (by omega))) ?_
      walk_at "ri"
      refine opq rfl rfl (ev_mul (mulOk_of 31 31 (by decide) (by omega))) ?_
      walk_at "ri"
      walk_at "app"
      walk_at "ri"
      refine ⟨rs, ds ++ [(x * x + 3 * x + k).fmod 1000003], h1, by simp [h2], ?_⟩
      simp [intsO]
  · rintro _ ⟨rs, ds, h1, h2, rfl⟩
    walk_at "ri"
    refine wp_reverseR rfl (by walk_at "set") ?_
    walk_at "ri"
    have := k ds.reverse
    simpa [intsO] using this
end Py
namespace Py
open PySem D
local macro_rules
  | `(tactic| walk_at "w") => `(tactic| with_reducible first
    | refine seq_nx ?_ | refine seq_rt ?_ | refine seq_bk ?_ | refine seq_ct ?_ | refine wp_seq ?_ | refine wp_asg ?_ | refine wp_next ?_ | refine wp_ret ?_ | refine wp_retN ?_ | refine wp_brk ?_ | refine wp_cont ?_ | refine wp_expr ?_ | refine wp_op ?_ | refine wp_un ?_ | refine wp_c ?_
    | refine unB ?_ | refine wp_truB ?_ | refine wp_and ?_ | refine wp_or ?_ | refine wp_not ?_ | refine wp_ifE ?_ | refine wp_tup ?_ | refine wp_lst ?_ | refine wp_lcons ?_ | refine wp_lnil ?_ | refine frzV ?_ | refine frzN ?_ | refine wp_frz ?_ | refine wp_sl ?_ | refine wp_onone ?_ | refine wp_osome ?_
    | refine wp_anil ?_ | refine wp_av ?_ | refine wp_andV ?_ | refine wp_orV ?_ | refine wp_notV ?_ | refine wp_fgtR ?_ | refine turn_nx ?_ | refine turn_rt ?_ | refine turn_bk ?_ | refine turn_ct ?_ | refine fgt_rt ?_ | refine wp_par ?_ | refine wp_chain ?_ | refine wp_seqI ?_)
local macro_rules
  | `(tactic| walk_at "put") => `(tactic| focus ((repeat apply PutR.s); exact PutR.z rfl))
local macro_rules
  | `(tactic| walk_at "set") => `(tactic| focus ((repeat apply SetR.s); first | exact SetR.o | exact SetR.r))
local macro_rules
  | `(tactic| walk_at "fgt") => `(tactic| focus (repeat first | exact FgtsR.nil | exact FgtR.k | exact FgtR.z rfl | apply FgtR.s | apply FgtsR.cons))
local macro_rules
  | `(tactic| walk_at "x") => `(tactic| first
    | ((with_reducible apply wp_varV); (focus exact rfl)) | ((with_reducible apply wp_varO); (focus exact rfl)) | ((with_reducible apply wp_varR); (focus exact rfl))
    | ((with_reducible apply opq); (focus exact rfl); (focus exact rfl); (focus (first | exact ev_eqI | exact ev_neI | exact ev_ltI | exact ev_leI | exact ev_gtI | exact ev_geI | exact rfl)))
    | ((with_reducible apply unq); (focus exact rfl); (focus exact rfl))
    | ((with_reducible first | apply putqV | apply putqN); walk_at "put")
    | ((with_reducible apply putq2); walk_at "put"; walk_at "put")
    | ((with_reducible apply parq); walk_at "put"; walk_at "put")
    | ((with_reducible apply wp_callR); (focus (repeat first | exact RefsR.nil | apply RefsR.v | apply RefsR.r)); (focus decide))
    | ((with_reducible apply wp_ar); (focus exact rfl))
    | ((with_reducible apply fin_rt); (focus exact rfl); (focus exact rfl))
    | ((with_reducible apply fin_nx); (focus exact rfl))
    | ((with_reducible apply wp_appendR); (focus exact rfl))
    | (with_reducible refine ⟨_, rfl, ?_⟩) | (with_reducible refine ⟨_, .inl rfl, ?_⟩) | (with_reducible refine ⟨_, .inr (.inl rfl), ?_⟩) | (with_reducible refine ⟨_, .inr (.inr rfl), ?_⟩)
    | (with_reducible apply callq0) | ((with_reducible apply frzB); (focus exact rfl); (focus exact rfl); walk_at "put")
    | ((with_reducible apply callq1); walk_at "set")
    | ((with_reducible apply callq2); walk_at "set"; walk_at "set")
    | ((with_reducible first | apply fgt_nx | apply fgt_bk | apply fgt_ct); walk_at "fgt")
    | ((with_reducible apply brT); (focus exact rfl)) | ((with_reducible apply brF); (focus exact rfl)))
local macro_rules
  | `(tactic| walk_at "r") => `(tactic| repeat first | walk_at "w" | walk_at "x")
local macro_rules
  | `(tactic| walk_at "ri") => `(tactic| repeat first | walk_at "w" | walk_at "x" | (with_reducible refine wp_if ?_))
local macro_rules
  | `(tactic| walk_at "app") => `(tactic| ((with_reducible apply appq); (focus exact rfl); (focus ((try simp only [List.length_map, List.length_nil, List.length_cons, List.length_append]); unfold line; omega)); walk_at "set"))
local macro_rules
  | `(tactic| walk_at "mul") => `(tactic| ((refine opq rfl rfl (ev_mul ?_) ?_); (focus (apply mulT <;> omega))))
local macro_rules
  | `(tactic| walk_at "rm") => `(tactic| repeat first | walk_at "w" | walk_at "x" | walk_at "mul")
local macro_rules
  | `(tactic| walk_at "len") => `(tactic| (refine And.intro ?_ ?_; (focus (simp [line]; done))))
theorem rat_spec {n d : Int} (hd : d ≠ 0) : ∃ c : Int, c ≠ 0 ∧ n = (rat n d).1 * c ∧ d = (rat n d).2 * c ∧ 0 < (rat n d).2 := by
  have hg := gcd_ne (n := n) hd
  have h1 : (Int.gcd n d : Int) ∣ n := Int.gcd_dvd_left ..
  have h2 : (Int.gcd n d : Int) ∣ d := Int.gcd_dvd_right ..
  obtain ⟨a, ha⟩ := h1
  obtain ⟨b, hb⟩ := h2
  generalize hG : (Int.gcd n d : Int) = g at *
  have hg0 : 0 < g := by omega
  unfold rat
  rw [hG]
  by_cases h : d < 0
  · simp only [if_pos h]
    have e1 : n = -g * -a := by rw [Int.neg_mul_neg]; exact ha
    have e2 : d = -g * -b := by rw [Int.neg_mul_neg]; exact hb
    rw [e1, e2, Int.mul_fdiv_cancel_left _ (by omega), Int.mul_fdiv_cancel_left _ (by omega)]
    refine ⟨-g, by omega, by rw [Int.mul_comm], by rw [Int.mul_comm], ?_⟩
    rw [hb] at h
    have : b < 0 := by
      apply Int.lt_of_not_ge
      intro h0
      have := Int.mul_nonneg (Int.le_of_lt hg0) h0
      omega
    omega
  · simp only [if_neg h]
    rw [ha, hb, Int.mul_fdiv_cancel_left _ (by omega), Int.mul_fdiv_cancel_left _ (by omega)]
    refine ⟨g, by omega, by rw [Int.mul_comm], by rw [Int.mul_comm], ?_⟩
    rw [hb] at h
    have hd0 : b ≠ 0 := by intro h0; rw [h0] at hb; simp at hb; exact hd hb
    apply Int.lt_of_not_ge
    intro h0
    have : b < 0 := by omega
    have := Int.mul_neg_of_pos_of_neg hg0 this
    omega
/-- a fraction that is not too great -/
def Gd (B : Nat) (p : Int × Int) : Prop := p.2 ≠ 0 ∧ p.1.natAbs ≤ B ∧ p.2.natAbs ≤ B
theorem Gd.mono {A B : Nat} {p : Int × Int} (h : Gd A p) (hab : A ≤ B) : Gd B p := ⟨h.1, Nat.le_trans h.2.1 hab, Nat.le_trans h.2.2 hab⟩
end Py
namespace Py
open PySem D
local macro_rules
  | `(tactic| walk_at "w") => `(tactic| with_reducible first
    | refine seq_nx ?_ | refine seq_rt ?_ | refine seq_bk ?_ | refine seq_ct ?_ | refine wp_seq ?_ | refine wp_asg ?_ | refine wp_next ?_ | refine wp_ret ?_ | refine wp_retN ?_ | refine wp_brk ?_ | refine wp_cont ?_ | refine wp_expr ?_ | refine wp_op ?_ | refine wp_un ?_ | refine wp_c ?_
    | refine unB ?_ | refine wp_truB ?_ | refine wp_and ?_ | refine wp_or ?_ | refine wp_not ?_ | refine wp_ifE ?_ | refine wp_tup ?_ | refine wp_lst ?_ | refine wp_lcons ?_ | refine wp_lnil ?_ | refine frzV ?_ | refine frzN ?_ | refine wp_frz ?_ | refine wp_sl ?_ | refine wp_onone ?_ | refine wp_osome ?_
    | refine wp_anil ?_ | refine wp_av ?_ | refine wp_andV ?_ | refine wp_orV ?_ | refine wp_notV ?_ | refine wp_fgtR ?_ | refine turn_nx ?_ | refine turn_rt ?_ | refine turn_bk ?_ | refine turn_ct ?_ | refine fgt_rt ?_ | refine wp_par ?_ | refine wp_chain ?_ | refine wp_seqI ?_)
local macro_rules
  | `(tactic| walk_at "put") => `(tactic| focus ((repeat apply PutR.s); exact PutR.z rfl))
local macro_rules
  | `(tactic| walk_at "set") => `(tactic| focus ((repeat apply SetR.s); first | exact SetR.o | exact SetR.r))
local macro_rules
  | `(tactic| walk_at "fgt") => `(tactic| focus (repeat first | exact FgtsR.nil | exact FgtR.k | exact FgtR.z rfl | apply FgtR.s | apply FgtsR.cons))
local macro_rules
  | `(tactic| walk_at "x") => `(tactic| first
    | ((with_reducible apply wp_varV); (focus exact rfl)) | ((with_reducible apply wp_varO); (focus exact rfl)) | ((with_reducible apply wp_varR); (focus exact rfl))
    | ((with_reducible apply opq); (focus exact rfl); (focus exact rfl); (focus (first | exact ev_eqI | exact ev_neI | exact ev_ltI | exact ev_leI | exact ev_gtI | exact ev_geI | exact rfl)))
    | ((with_reducible apply unq); (focus exact rfl); (focus exact rfl))
    | ((with_reducible first | apply putqV | apply putqN); walk_at "put")
    | ((with_reducible apply putq2); walk_at "put"; walk_at "put")
    | ((with_reducible apply parq); walk_at "put"; walk_at "put")
    | ((with_reducible apply wp_callR); (focus (repeat first | exact RefsR.nil | apply RefsR.v | apply RefsR.r)); (focus decide))
    | ((with_reducible apply wp_ar); (focus exact rfl))
    | ((with_reducible apply fin_rt); (focus exact rfl); (focus exact rfl))
    | ((with_reducible apply fin_nx); (focus exact rfl))
    | ((with_reducible apply wp_appendR); (focus exact rfl))
    | (with_reducible refine ⟨_, rfl, ?_⟩) | (with_reducible refine ⟨_, .inl rfl, ?_⟩) | (with_reducible refine ⟨_, .inr (.inl rfl), ?_⟩) | (with_reducible refine ⟨_, .inr (.inr rfl), ?_⟩)
    | (with_reducible apply callq0) | ((with_reducible apply frzB); (focus exact rfl); (focus exact rfl); walk_at "put")
    | ((with_reducible apply callq1); walk_at "set")
    | ((with_reducible apply callq2); walk_at "set"; walk_at "set")
    | ((with_reducible first | apply fgt_nx | apply fgt_bk | apply fgt_ct); walk_at "fgt")
    | ((with_reducible apply brT); (focus exact rfl)) | ((with_reducible apply brF); (focus exact rfl)))
local macro_rules
  | `(tactic| walk_at "r") => `(tactic| repeat first | walk_at "w" | walk_at "x")
local macro_rules
  | `(tactic| walk_at "ri") => `(tactic| repeat first | walk_at "w" | walk_at "x" | (with_reducible refine wp_if ?_))
local macro_rules
  | `(tactic| walk_at "app") => `(tactic| ((with_reducible apply appq); (focus exact rfl); (focus ((try simp only [List.length_map, List.length_nil, List.length_cons, List.length_append]); unfold line; omega)); walk_at "set"))
local macro_rules
  | `(tactic| walk_at "mul") => `(tactic| ((refine opq rfl rfl (ev_mul ?_) ?_); (focus (apply mulT <;> omega))))
local macro_rules
  | `(tactic| walk_at "rm") => `(tactic| repeat first | walk_at "w" | walk_at "x" | walk_at "mul")
local macro_rules
  | `(tactic| walk_at "len") => `(tactic| (refine And.intro ?_ ?_; (focus (simp [line]; done))))
/-! numbers of the script's size -/
@[irreducible] def TT : Nat := 2 ^ 1048576
theorem tt_lt : 10 ^ 100 * TT < 2 ^ 1049000 := by
  unfold TT
  calc 10 ^ 100 * 2 ^ 1048576 < 2 ^ 424 * 2 ^ 1048576 := Nat.mul_lt_mul_of_pos_right (by decide) (Nat.two_pow_pos _)
    _ = 2 ^ 1049000 := by rw [← Nat.pow_add]
theorem mulT {a b : Int} (ha : a.natAbs ≤ 10 ^ 100 * TT) (hb : b.natAbs ≤ 10 ^ 100 * TT) : mulOk a b = true := mulOk_of 1049000 1049000 (Nat.lt_of_le_of_lt ha tt_lt) (Nat.lt_of_le_of_lt hb tt_lt)
theorem of_common {a b : Int} {Q : R → List Ob → Prop} (k : Q (.val (.int (Int.gcd a b))) []) : Ret d_law_common [.val (.int a), .val (.int b)] Q := by
  refine ret_mkR (by repeat constructor) ?_
  unfold b_law_common
  walk_at "r"
  refine wp_while (fun (p : Nat × Nat) ρ => ρ = [some (.val (.int p.1)), some (.val (.int p.2))] ∧ Nat.gcd p.1 p.2 = Int.gcd a b) (fun p => p.2) (a.natAbs, b.natAbs) ⟨rfl, rfl⟩ ?_
  rintro ⟨x, y⟩ ρ ⟨rfl, hg⟩
  dsimp only at hg ⊢
  unfold t2_law_common l1_law_common
  walk_at "r"
  refine branchD (fun h => ?_) fun h => ?_
  · have hy : 0 < y := by omega
    walk_at "r"
    refine opq rfl rfl (ev_mod (by omega)) ?_
    walk_at "r"
    have e : (x : Int).fmod y = ((x % y : Nat) : Int) := by rw [Int.fmod_eq_emod_of_nonneg _ (by omega)]; simp
    refine ⟨(y, x % y), Nat.mod_lt _ hy, ?_, ?_⟩
    · rw [e]
    · rw [← hg, Nat.gcd_comm x y, Nat.gcd_rec y x, Nat.gcd_comm]
  · have hy : y = 0 := by omega
    subst hy
    walk_at "r"
    rw [Nat.gcd_zero_right] at hg
    rw [hg]
    exact k
theorem of_lfraction {n d : Int} (hd : d ≠ 0) {Q : R → List Ob → Prop} (k : Q (.val (fr (rat n d))) []) : Ret d_law_fraction [.val (.int n), .val (.int d)] Q := by
  have hg := gcd_ne (n := n) hd
  refine ret_mkR (by repeat constructor) ?_
  unfold b_law_fraction
  walk_at "r"
  refine of_common ?_
  walk_at "ri"
  refine branchD (fun h => ?_) fun h => ?_
  · walk_at "r"
    refine opq rfl rfl (ev_div (by omega)) ?_
    walk_at "r"
    refine opq rfl rfl (ev_div (by omega)) ?_
    walk_at "r"
    walk_at "len"
    walk_at "r"
    unfold rat at k
    rw [if_pos h] at k
    exact k
  · walk_at "r"
    refine opq rfl rfl (ev_div (by omega)) ?_
    walk_at "r"
    refine opq rfl rfl (ev_div (by omega)) ?_
    walk_at "r"
    walk_at "len"
    walk_at "r"
    unfold rat at k
    rw [if_neg h] at k
    exact k
/-! comprehensions and sums -/
theorem ints_map (xs : List Int) : ints? (xs.map PyData.int) = some xs := by
  unfold ints?
  induction xs with
  | nil => rfl
  | cons x xs ih => simp [List.mapM_cons, intV?, ih]
theorem ev_sum {xs : List Int} : fSum (.ob (.lst (xs.map PyData.int))) = some (.val (.int xs.sum)) := by simp [fSum, Ct.lst?, ints_map]
theorem lcqY {g : MG} {vs : List Nat} {e : M} {x : PV} {ρ ρ0 : Env} {Q : List PV → Env → Prop} (h0 : wipe ρ vs = ρ0) (h : PutQ g (.val x) ρ0 fun ρ1 => Wp e ρ1 fun r ρ3 => FrzQ r ρ3 fun v ρ4 => Q [v] ρ4) : LcQ g vs tYes e x ρ Q := by
  subst h0
  obtain ⟨ρ1, e1, q⟩ := h
  exact ⟨ρ1, e1, true, ρ1, rfl, fun _ => q, fun h => by cases h⟩
end Py
namespace Py
open PySem D
local macro_rules
  | `(tactic| walk_at "w") => `(tactic| with_reducible first
    | refine seq_nx ?_ | refine seq_rt ?_ | refine seq_bk ?_ | refine seq_ct ?_ | refine wp_seq ?_ | refine wp_asg ?_ | refine wp_next ?_ | refine wp_ret ?_ | refine wp_retN ?_ | refine wp_brk ?_ | refine wp_cont ?_ | refine wp_expr ?_ | refine wp_op ?_ | refine wp_un ?_ | refine wp_c ?_
    | refine unB ?_ | refine wp_truB ?_ | refine wp_and ?_ | refine wp_or ?_ | refine wp_not ?_ | refine wp_ifE ?_ | refine wp_tup ?_ | refine wp_lst ?_ | refine wp_lcons ?_ | refine wp_lnil ?_ | refine frzV ?_ | refine frzN ?_ | refine wp_frz ?_ | refine wp_sl ?_ | refine wp_onone ?_ | refine wp_osome ?_
    | refine wp_anil ?_ | refine wp_av ?_ | refine wp_andV ?_ | refine wp_orV ?_ | refine wp_notV ?_ | refine wp_fgtR ?_ | refine turn_nx ?_ | refine turn_rt ?_ | refine turn_bk ?_ | refine turn_ct ?_ | refine fgt_rt ?_ | refine wp_par ?_ | refine wp_chain ?_ | refine wp_seqI ?_)
local macro_rules
  | `(tactic| walk_at "put") => `(tactic| focus ((repeat apply PutR.s); first | exact PutR.z rfl | exact PutR.z (by assumption)))
local macro_rules
  | `(tactic| walk_at "set") => `(tactic| focus ((repeat apply SetR.s); first | exact SetR.o | exact SetR.r))
local macro_rules
  | `(tactic| walk_at "fgt") => `(tactic| focus (repeat first | exact FgtsR.nil | exact FgtR.k | exact FgtR.z rfl | apply FgtR.s | apply FgtsR.cons))
local macro_rules
  | `(tactic| walk_at "x") => `(tactic| first
    | ((with_reducible apply wp_varV); (focus exact rfl)) | ((with_reducible apply wp_varO); (focus exact rfl)) | ((with_reducible apply wp_varR); (focus exact rfl))
    | ((with_reducible apply opq); (focus exact rfl); (focus exact rfl); (focus (first | exact ev_eqI | exact ev_neI | exact ev_ltI | exact ev_leI | exact ev_gtI | exact ev_geI | exact ev_strT | exact ev_strF n1 | exact ev_strF n2 | exact ev_strF n3 | exact ev_strF n4 | exact ev_strF n5 | exact ev_strF n6 | exact rfl)))
    | ((with_reducible apply unq); (focus exact rfl); (focus exact rfl))
    | ((with_reducible first | apply putqV | apply putqN); walk_at "put")
    | ((with_reducible apply putq2); walk_at "put"; walk_at "put")
    | ((with_reducible apply parq); walk_at "put"; walk_at "put")
    | ((with_reducible apply wp_callR); (focus (repeat first | exact RefsR.nil | apply RefsR.v | apply RefsR.r)); (focus decide))
    | ((with_reducible apply wp_ar); (focus exact rfl))
    | ((with_reducible apply fin_rt); (focus exact rfl); (focus exact rfl))
    | ((with_reducible apply fin_nx); (focus exact rfl))
    | ((with_reducible apply wp_appendR); (focus exact rfl))
    | (with_reducible refine ⟨_, rfl, ?_⟩) | (with_reducible refine ⟨_, .inl rfl, ?_⟩) | (with_reducible refine ⟨_, .inr (.inl rfl), ?_⟩) | (with_reducible refine ⟨_, .inr (.inr rfl), ?_⟩)
    | (with_reducible apply callq0) | ((with_reducible apply frzB); (focus exact rfl); (focus exact rfl); walk_at "put")
    | ((with_reducible apply callq1); walk_at "set")
    | ((with_reducible apply callq2); walk_at "set"; walk_at "set")
    | ((with_reducible first | apply fgt_nx | apply fgt_bk | apply fgt_ct); walk_at "fgt")
    | ((with_reducible apply brT); (focus exact rfl)) | ((with_reducible apply brF); (focus exact rfl)))
local macro_rules
  | `(tactic| walk_at "r") => `(tactic| repeat first | walk_at "w" | walk_at "x")
local macro_rules
  | `(tactic| walk_at "ri") => `(tactic| repeat first | walk_at "w" | walk_at "x" | (with_reducible refine wp_if ?_))
local macro_rules
  | `(tactic| walk_at "app") => `(tactic| ((with_reducible apply appq); (focus exact rfl); (focus ((try simp only [List.length_map, List.length_nil, List.length_cons, List.length_append]); unfold line; omega)); walk_at "set"))
local macro_rules
  | `(tactic| walk_at "mul") => `(tactic| ((refine opq rfl rfl (ev_mul ?_) ?_); (focus (apply mulT <;> omega))))
local macro_rules
  | `(tactic| walk_at "rm") => `(tactic| repeat first | walk_at "w" | walk_at "x" | walk_at "mul")
local macro_rules
  | `(tactic| walk_at "len") => `(tactic| (refine And.intro ?_ ?_; (focus (simp [line]; done))))
local macro_rules
  | `(tactic| walk_at "rl") => `(tactic| repeat first | walk_at "w" | walk_at "x" | walk_at "len")
local macro_rules
  | `(tactic| walk_at "ril") => `(tactic| repeat first | walk_at "w" | walk_at "x" | walk_at "len" | (with_reducible refine wp_if ?_))
/-! fractions by their cross product -/
theorem rat_cop {n d : Int} (hd : d ≠ 0) : Int.gcd (rat n d).1 (rat n d).2 = 1 := by
  have hg := gcd_ne (n := n) hd
  have h1 : (Int.gcd n d : Int) ∣ n := Int.gcd_dvd_left ..
  have h2 : (Int.gcd n d : Int) ∣ d := Int.gcd_dvd_right ..
  obtain ⟨a, ha⟩ := h1
  obtain ⟨b, hb⟩ := h2
  have key : Int.gcd a b = 1 := by
    have e := congrArg (fun x : Int × Int => Int.gcd x.1 x.2) (show (n, d) = ((Int.gcd n d : Int) * a, (Int.gcd n d : Int) * b) from by rw [← ha, ← hb])
    simp only at e
    rw [Int.gcd_mul_left, Int.natAbs_natCast] at e
    have h0 : 0 < Int.gcd n d := by omega
    have e' : Int.gcd n d * 1 = Int.gcd n d * Int.gcd a b := by rw [Nat.mul_one]; exact e
    exact (Nat.eq_of_mul_eq_mul_left h0 e').symm
  unfold rat
  generalize (Int.gcd n d : Int) = g at *
  by_cases h : d < 0
  · simp only [if_pos h]
    have e1 : n = -g * -a := by rw [Int.neg_mul_neg]; exact ha
    have e2 : d = -g * -b := by rw [Int.neg_mul_neg]; exact hb
    rw [e1, e2, Int.mul_fdiv_cancel_left _ (by omega), Int.mul_fdiv_cancel_left _ (by omega), Int.neg_gcd, Int.gcd_neg]
    exact key
  · simp only [if_neg h]
    rw [ha, hb, Int.mul_fdiv_cancel_left _ (by omega), Int.mul_fdiv_cancel_left _ (by omega)]
    exact key
/-- in lowest terms -/
def Low (p : Int × Int) : Prop := 0 < p.2 ∧ Int.gcd p.1 p.2 = 1
theorem low_rat {n d : Int} (hd : d ≠ 0) : Low (rat n d) := by
  obtain ⟨c, _, _, _, h⟩ := rat_spec (n := n) hd
  exact ⟨h, rat_cop hd⟩
theorem low_eq {p q : Int × Int} (hp : Low p) (hq : Low q) (h : p.1 * q.2 = q.1 * p.2) : p = q := by
  obtain ⟨p1, p2⟩ := hp
  obtain ⟨q1, q2⟩ := hq
  have d1 : p.2.natAbs ∣ q.2.natAbs := by
    have : p.2.natAbs ∣ p.1.natAbs * q.2.natAbs := by
      rw [← Int.natAbs_mul, h, Int.natAbs_mul]
      exact Nat.dvd_mul_left ..
    exact Nat.Coprime.dvd_of_dvd_mul_left (Nat.Coprime.symm p2) this
  have d2 : q.2.natAbs ∣ p.2.natAbs := by
    have : q.2.natAbs ∣ q.1.natAbs * p.2.natAbs := by
      rw [← Int.natAbs_mul, ← h, Int.natAbs_mul]
      exact Nat.dvd_mul_left ..
    exact Nat.Coprime.dvd_of_dvd_mul_left (Nat.Coprime.symm q2) this
  have e := Nat.dvd_antisymm d1 d2
  have e2 : p.2 = q.2 := by omega
  rw [e2] at h
  have e1 := Int.eq_of_mul_eq_mul_right (by omega) h
  exact Prod.ext e1 e2
theorem rat_cross {n d : Int} (hd : d ≠ 0) : (rat n d).1 * d = n * (rat n d).2 := by
  obtain ⟨c, hc, h1, h2, h3⟩ := rat_spec (n := n) hd
  generalize rat n d = r at *
  rw [h1, h2]
  grind
theorem low_of {p : Int × Int} {n d : Int} (hp : Low p) (hd : d ≠ 0) (h : p.1 * d = n * p.2) : rat n d = p := by
  have hc := rat_cross (n := n) hd
  refine low_eq (low_rat hd) hp ?_
  apply Int.eq_of_mul_eq_mul_right hd
  generalize rat n d = r at *
  grind
/-- the sum of the products -/
def dotV (ps qs : List (Int × Int)) : Int × Int := (List.zipWith timesV ps qs).foldl plusV (0, 1)
theorem low_plus {p q : Int × Int} (hp : 0 < p.2) (hq : 0 < q.2) : Low (plusV p q) := low_rat (Int.mul_ne_zero (by omega) (by omega))
theorem low_times {p q : Int × Int} (hp : 0 < p.2) (hq : 0 < q.2) : Low (timesV p q) := low_rat (Int.mul_ne_zero (by omega) (by omega))

theorem rat_le {n d : Int} (hd : d ≠ 0) : (rat n d).1.natAbs ≤ n.natAbs ∧ (rat n d).2.natAbs ≤ d.natAbs := by
  obtain ⟨c, hc, e1, e2, e3⟩ := rat_spec (n := n) hd
  have hc1 : 1 ≤ c.natAbs := by omega
  have f1 := congrArg Int.natAbs e1
  have f2 := congrArg Int.natAbs e2
  rw [Int.natAbs_mul] at f1 f2
  have g1 := Nat.mul_le_mul (Nat.le_refl (rat n d).1.natAbs) hc1
  have g2 := Nat.mul_le_mul (Nat.le_refl (rat n d).2.natAbs) hc1
  omega
/-- numbers of m bits -/
def Bt (m : Nat) (p : Int × Int) : Prop := 0 < p.2 ∧ p.1.natAbs < 2 ^ m ∧ p.2.natAbs < 2 ^ m
theorem Bt.mono {m n : Nat} {p : Int × Int} (h : Bt m p) (hmn : m ≤ n) : Bt n p := ⟨h.1, Nat.lt_of_lt_of_le h.2.1 (Nat.pow_le_pow_right (by decide) hmn), Nat.lt_of_lt_of_le h.2.2 (Nat.pow_le_pow_right (by decide) hmn)⟩
theorem lt_mul {a b : Int} {m n : Nat} (ha : a.natAbs < 2 ^ m) (hb : b.natAbs < 2 ^ n) : (a * b).natAbs < 2 ^ (m + n) := by
  rw [Int.natAbs_mul, Nat.pow_add]
  exact Nat.mul_lt_mul'' ha hb
theorem lt_add {a b : Int} {m : Nat} (ha : a.natAbs < 2 ^ m) (hb : b.natAbs < 2 ^ m) : (a + b).natAbs < 2 ^ (m + 1) := by
  rw [Nat.pow_succ]
  omega
theorem bt_times {p q : Int × Int} {m n : Nat} (hp : Bt m p) (hq : Bt n q) : Bt (m + n) (timesV p q) := by
  have hd : p.2 * q.2 ≠ 0 := Int.mul_ne_zero (by have := hp.1; omega) (by have := hq.1; omega)
  obtain ⟨h1, h2⟩ := rat_le (n := p.1 * q.1) hd
  exact ⟨(low_rat hd).1, Nat.lt_of_le_of_lt h1 (lt_mul hp.2.1 hq.2.1), Nat.lt_of_le_of_lt h2 (lt_mul hp.2.2 hq.2.2)⟩
theorem bt_plus {p q : Int × Int} {m n : Nat} (hp : Bt m p) (hq : Bt n q) : Bt (m + n + 1) (plusV p q) := by
  have hd : p.2 * q.2 ≠ 0 := Int.mul_ne_zero (by have := hp.1; omega) (by have := hq.1; omega)
  obtain ⟨h1, h2⟩ := rat_le (n := p.1 * q.2 + q.1 * p.2) hd
  have e := lt_mul hq.2.1 hp.2.2
  rw [Nat.add_comm n m] at e
  exact ⟨(low_rat hd).1, Nat.lt_of_le_of_lt h1 (lt_add (lt_mul hp.2.1 hq.2.2) e), Nat.lt_of_lt_of_le (Nat.lt_of_le_of_lt h2 (lt_mul hp.2.2 hq.2.2)) (Nat.pow_le_pow_right (by decide) (by omega))⟩
theorem okM_bt {p q : Int × Int} {m n : Nat} (hp : Bt m p) (hq : Bt n q) (h : m + n < 100000000) : okM p q :=
  ⟨mulOk_of m n hp.2.1 hq.2.2 h, mulOk_of n m hq.2.1 hp.2.2 (by omega), mulOk_of m n hp.2.2 hq.2.2 h, mulOk_of m n hp.2.1 hq.2.1 h⟩
/-- two rows side by side -/
def Two (ps qs : List (Int × Int)) : Prop := ps.length = qs.length ∧ ps.length ≤ 100 ∧ (∀ p ∈ ps, Bt 350 p) ∧ ∀ q ∈ qs, Bt 350 q
def natI (k : Nat) : PV := .int (k : Int)
/-- a list or a tuple -/
def SqV (v : PV) (xs : List PV) : Prop := v = .list xs ∨ v = .tuple xs
end Py
namespace Py
open PySem D
local macro_rules
  | `(tactic| walk_at "w") => `(tactic| with_reducible first
    | refine seq_nx ?_ | refine seq_rt ?_ | refine seq_bk ?_ | refine seq_ct ?_ | refine wp_seq ?_ | refine wp_asg ?_ | refine wp_next ?_ | refine wp_ret ?_ | refine wp_retN ?_ | refine wp_brk ?_ | refine wp_cont ?_ | refine wp_expr ?_ | refine wp_op ?_ | refine wp_un ?_ | refine wp_c ?_
    | refine unB ?_ | refine wp_truB ?_ | refine wp_and ?_ | refine wp_or ?_ | refine wp_not ?_ | refine wp_ifE ?_ | refine wp_tup ?_ | refine wp_lst ?_ | refine wp_lcons ?_ | refine wp_lnil ?_ | refine frzV ?_ | refine frzN ?_ | refine wp_frz ?_ | refine wp_sl ?_ | refine wp_onone ?_ | refine wp_osome ?_
    | refine wp_anil ?_ | refine wp_av ?_ | refine wp_andV ?_ | refine wp_orV ?_ | refine wp_notV ?_ | refine wp_fgtR ?_ | refine turn_nx ?_ | refine turn_rt ?_ | refine turn_bk ?_ | refine turn_ct ?_ | refine fgt_rt ?_ | refine wp_par ?_ | refine wp_chain ?_ | refine wp_seqI ?_)
local macro_rules
  | `(tactic| walk_at "put") => `(tactic| focus ((repeat apply PutR.s); first | exact PutR.z rfl | exact PutR.z (by assumption)))
local macro_rules
  | `(tactic| walk_at "set") => `(tactic| focus ((repeat apply SetR.s); first | exact SetR.o | exact SetR.r))
local macro_rules
  | `(tactic| walk_at "fgt") => `(tactic| focus (repeat first | exact FgtsR.nil | exact FgtR.k | exact FgtR.z rfl | apply FgtR.s | apply FgtsR.cons))
local macro_rules
  | `(tactic| walk_at "x") => `(tactic| first
    | ((with_reducible apply wp_varV); (focus exact rfl)) | ((with_reducible apply wp_varO); (focus exact rfl)) | ((with_reducible apply wp_varR); (focus exact rfl))
    | ((with_reducible apply opq); (focus exact rfl); (focus exact rfl); (focus (first | exact ev_eqI | exact ev_neI | exact ev_ltI | exact ev_leI | exact ev_gtI | exact ev_geI | exact ev_strT | exact ev_strF n1 | exact ev_strF n2 | exact ev_strF n3 | exact ev_strF n4 | exact ev_strF n5 | exact ev_strF n6 | exact rfl)))
    | ((with_reducible apply unq); (focus exact rfl); (focus exact rfl))
    | ((with_reducible first | apply putqV | apply putqN); walk_at "put")
    | ((with_reducible apply putq2); walk_at "put"; walk_at "put")
    | ((with_reducible apply parq); walk_at "put"; walk_at "put")
    | ((with_reducible apply wp_callR); (focus (repeat first | exact RefsR.nil | apply RefsR.v | apply RefsR.r)); (focus decide))
    | ((with_reducible apply wp_ar); (focus exact rfl))
    | ((with_reducible apply fin_rt); (focus exact rfl); (focus exact rfl))
    | ((with_reducible apply fin_nx); (focus exact rfl))
    | ((with_reducible apply wp_appendR); (focus exact rfl))
    | (with_reducible refine ⟨_, rfl, ?_⟩) | (with_reducible refine ⟨_, .inl rfl, ?_⟩) | (with_reducible refine ⟨_, .inr (.inl rfl), ?_⟩) | (with_reducible refine ⟨_, .inr (.inr rfl), ?_⟩)
    | (with_reducible apply callq0) | ((with_reducible apply frzB); (focus exact rfl); (focus exact rfl); walk_at "put")
    | ((with_reducible apply callq1); walk_at "set")
    | ((with_reducible apply callq2); walk_at "set"; walk_at "set")
    | ((with_reducible first | apply fgt_nx | apply fgt_bk | apply fgt_ct); walk_at "fgt")
    | ((with_reducible apply brT); (focus exact rfl)) | ((with_reducible apply brF); (focus exact rfl)))
local macro_rules
  | `(tactic| walk_at "r") => `(tactic| repeat first | walk_at "w" | walk_at "x")
local macro_rules
  | `(tactic| walk_at "ri") => `(tactic| repeat first | walk_at "w" | walk_at "x" | (with_reducible refine wp_if ?_))
local macro_rules
  | `(tactic| walk_at "app") => `(tactic| ((with_reducible apply appq); (focus exact rfl); (focus ((try simp only [List.length_map, List.length_nil, List.length_cons, List.length_append]); unfold line; omega)); walk_at "set"))
local macro_rules
  | `(tactic| walk_at "mul") => `(tactic| ((refine opq rfl rfl (ev_mul ?_) ?_); (focus (apply mulT <;> omega))))
local macro_rules
  | `(tactic| walk_at "rm") => `(tactic| repeat first | walk_at "w" | walk_at "x" | walk_at "mul")
local macro_rules
  | `(tactic| walk_at "len") => `(tactic| (refine And.intro ?_ ?_; (focus (simp [line]; done))))
local macro_rules
  | `(tactic| walk_at "rl") => `(tactic| repeat first | walk_at "w" | walk_at "x" | walk_at "len")
local macro_rules
  | `(tactic| walk_at "ril") => `(tactic| repeat first | walk_at "w" | walk_at "x" | walk_at "len" | (with_reducible refine wp_if ?_))

/-! tables -/
def tupF (row : List (Int × Int)) : PV := .tuple (row.map fr)
/-- a table's bets: each of n fractions -/
def Tbl (n : Nat) (bets : List (List (Int × Int))) : Prop := bets.length ≤ 100 ∧ n ≤ 100 ∧ ∀ b ∈ bets, b.length = n ∧ ∀ p ∈ b, Bt 350 p
def tblV (n : Nat) (bets : List (List (Int × Int))) : PV := .tuple [.int n, .tuple (bets.map tupF)]
def Row (m : Nat) (row : List (Int × Int)) : Prop := row.length = m ∧ ∀ p ∈ row, Bt 350 p
def col (bets : List (List (Int × Int))) (k : Nat) : List (Int × Int) := bets.map fun b => b.getD k (0, 1)
def gainsV (n : Nat) (bets : List (List (Int × Int))) (st : List (Int × Int)) : List (Int × Int) := (List.range n).map fun k => dotV st (col bets k)
def worthsV (bets : List (List (Int × Int))) (ch : List (Int × Int)) : List (Int × Int) := bets.map fun b => dotV ch b
section
variable {n : Nat} {bets : List (List (Int × Int))} {st ch : List (Int × Int)} {Q : R → List Ob → Prop}
end
end Py
/-! QR: fractions as rational numbers. -/
namespace Py
open PySem D
def qv (p : Int × Int) : Rat := (p.1 : Rat) / (p.2 : Rat)
theorem ic_ne {a : Int} (h : a ≠ 0) : (a : Rat) ≠ 0 := fun z => h (Rat.intCast_eq_zero_iff.mp z)
theorem ic_pos {a : Int} (h : 0 < a) : (0 : Rat) < a := Rat.intCast_pos.mpr h
theorem qv_of {p : Int × Int} {n d : Int} (hp : p.2 ≠ 0) (hd : d ≠ 0) : qv p = (n : Rat) / d ↔ p.1 * d = n * p.2 := by
  have h1 := ic_ne hp
  have h2 := ic_ne hd
  unfold qv
  constructor
  · intro h
    have h3 : (p.1 : Rat) * d = n * p.2 := by grind
    have h4 : ((p.1 * d : Int) : Rat) = ((n * p.2 : Int) : Rat) := by rw [Rat.intCast_mul, Rat.intCast_mul, h3]
    exact Rat.intCast_inj.mp h4
  · intro h
    have h4 : ((p.1 * d : Int) : Rat) = ((n * p.2 : Int) : Rat) := by rw [h]
    rw [Rat.intCast_mul, Rat.intCast_mul] at h4
    grind
theorem Low.ne {p : Int × Int} (h : Low p) : p.2 ≠ 0 := by have := h.1; omega
theorem rat_ne {n d : Int} (hd : d ≠ 0) : (rat n d).2 ≠ 0 := (low_rat hd).ne
theorem qv_rat {n d : Int} (hd : d ≠ 0) : qv (rat n d) = (n : Rat) / d := (qv_of (rat_ne hd) hd).mpr (rat_cross hd)
theorem qv_plus {p q : Int × Int} (hp : p.2 ≠ 0) (hq : q.2 ≠ 0) : qv (plusV p q) = qv p + qv q := by
  unfold plusV
  rw [qv_rat (Int.mul_ne_zero hp hq)]
  have h1 := ic_ne hp
  have h2 := ic_ne hq
  unfold qv
  rw [Rat.intCast_add, Rat.intCast_mul, Rat.intCast_mul, Rat.intCast_mul]
  grind
theorem qv_times {p q : Int × Int} (hp : p.2 ≠ 0) (hq : q.2 ≠ 0) : qv (timesV p q) = qv p * qv q := by
  unfold timesV
  rw [qv_rat (Int.mul_ne_zero hp hq)]
  have h1 := ic_ne hp
  have h2 := ic_ne hq
  unfold qv
  rw [Rat.intCast_mul, Rat.intCast_mul]
  grind
theorem div_lt {a b c d : Int} (hb : 0 < b) (hd : 0 < d) : ((a : Rat) / b < (c : Rat) / d) ↔ a * d < c * b := by
  have h1 := ic_pos hb
  have h2 := ic_pos hd
  have e : ((a * d : Int) : Rat) < ((c * b : Int) : Rat) ↔ a * d < c * b := Rat.intCast_lt_intCast
  rw [← e, Rat.intCast_mul, Rat.intCast_mul, Rat.div_lt_iff h1]
  have : (c : Rat) / d * b = (c * b) / d := by grind
  rw [this, Rat.lt_div_iff h2]
theorem less_qv {p q : Int × Int} (hp : 0 < p.2) (hq : 0 < q.2) : lessV p q = decide (qv p < qv q) := by
  unfold lessV qv
  by_cases h : p.1 * q.2 < q.1 * p.2
  · rw [decide_eq_true h, decide_eq_true ((div_lt hp hq).mpr h)]
  · rw [decide_eq_false h, decide_eq_false (fun z => h ((div_lt hp hq).mp z))]
theorem low_qv {p q : Int × Int} (hp : Low p) (hq : Low q) (h : qv p = qv q) : p = q :=
  low_eq hp hq ((qv_of hp.ne hq.ne).mp h)
theorem low_rat_qv {p : Int × Int} {n d : Int} (hp : Low p) (hd : d ≠ 0) (h : qv p = (n : Rat) / d) : rat n d = p := low_of hp hd ((qv_of hp.ne hd).mp h)
theorem low_bd {p : Int × Int} {n d : Int} (hp : Low p) (hd : d ≠ 0) (h : qv p = (n : Rat) / d) : p.1.natAbs ≤ n.natAbs ∧ p.2.natAbs ≤ d.natAbs := by
  rw [← low_rat_qv hp hd h]
  exact rat_le hd
end Py
/-! QI: how the further meanings are reckoned. -/
namespace Py
open PySem
theorem eqv_int {a b : Int} : PyData.eqv (.int a) (.int b) = decide (a = b) := by simp only [PyData.eqv]; rfl
theorem inD_ints {x : Int} {xs : List Int} : inD (.int x) (xs.map PyData.int) = decide (x ∈ xs) := by
  unfold inD
  induction xs with
  | nil => rfl
  | cons a xs ih =>
    rw [List.map_cons, List.any_cons, ih, eqv_int]
    by_cases h : a = x
    · subst h; simp
    · have h' : ¬ x = a := fun z => h z.symm
      simp [h, h']
theorem flat_ints {xs : List Int} : (xs.map PyData.int).all flatD = true := by
  induction xs with
  | nil => rfl
  | cons a xs ih => rw [List.map_cons, List.all_cons, ih]; rfl
theorem ev_inI {neg : Bool} {x : Int} {c : Ct} {xs : List Int} (h : c.seq? = some (xs.map PyData.int)) : fIn neg (.pv (.int x)) c = some (.val (.bool (neg ^^ decide (x ∈ xs)))) := by
  unfold fIn
  simp only [h, Option.bind_some]
  rw [if_pos ⟨rfl, flat_ints⟩, inD_ints]
theorem ev_in2 {x a b : Int} : fIn false (.pv (.int x)) (.pv (.tuple [.int a, .int b])) = some (.val (.bool (decide (x = a ∨ x = b)))) := by
  rw [ev_inI (xs := [a, b]) rfl]
  simp
theorem ev_in2n {x a b : Int} : fIn true (.pv (.int x)) (.pv (.tuple [.int a, .int b])) = some (.val (.bool (!decide (x = a ∨ x = b)))) := by
  rw [ev_inI (xs := [a, b]) rfl]
  simp
theorem ev_in4n {x a b c d : Int} : fIn true (.pv (.int x)) (.ob (.lst [.int a, .int b, .int c, .int d])) = some (.val (.bool (!decide (x = a ∨ x = b ∨ x = c ∨ x = d)))) := by
  rw [ev_inI (xs := [a, b, c, d]) rfl]
  simp
theorem ev_inF {x : Int} {c : Ct} {xs : List Int} (h : c.seq? = some (xs.map PyData.int)) : fIn false (.pv (.int x)) c = some (.val (.bool (decide (x ∈ xs)))) := by rw [ev_inI h, Bool.false_xor]
theorem ev_inT {x : Int} {c : Ct} {xs : List Int} (h : c.seq? = some (xs.map PyData.int)) : fIn true (.pv (.int x)) c = some (.val (.bool (!decide (x ∈ xs)))) := by rw [ev_inI h, Bool.true_xor]
theorem ev_isT {a : Bool} : fIsB false (.pv (.bool a)) (.pv (.bool true)) = some (.val (.bool a)) := by cases a <;> rfl
theorem ev_isF {a : Bool} : fIsB false (.pv (.bool a)) (.pv (.bool false)) = some (.val (.bool (!a))) := by cases a <;> rfl
theorem ev_isnT {a : Bool} : fIsB true (.pv (.bool a)) (.pv (.bool true)) = some (.val (.bool (!a))) := by cases a <;> rfl
theorem ev_isnF {a : Bool} : fIsB true (.pv (.bool a)) (.pv (.bool false)) = some (.val (.bool a)) := by cases a <;> rfl
def tupI (xs : List Int) : PV := .tuple (xs.map PyData.int)
theorem ev_addT {xs ys : List PV} (h : xs.length + ys.length ≤ line) : fAdd (.pv (.tuple xs)) (.pv (.tuple ys)) = some (.val (.tuple (xs ++ ys))) := if_pos h
theorem putqB {i j : Nat} {o : Ob} {v : PV} {ρ ρ1 ρ2 : Env} {Q : Env → Prop} (h : get ρ j = some (.own o)) (h2 : frzO o = some v) (h3 : PutR j (some (.val v)) ρ ρ1) (h4 : PutR i (some (.val v)) ρ1 ρ2) (q : Q ρ2) : PutQ (gName i) (.bor j) ρ Q := by
  have e := h3.put
  simp only [put, h, isRef, Bool.false_eq_true, if_false] at e
  refine ⟨ρ2, ?_, q⟩
  simp only [gName, frz, h, h2, Option.map_some, Option.bind_some]
  rw [Option.some.inj e]
  exact h4.put
theorem pickI {xs : List Int} {i : Int} (h0 : 0 ≤ i) (h1 : i < xs.length) : ∃ w ∈ xs, atI (xs.map PyData.int) i = some (.int w) := by
  obtain ⟨j, rfl⟩ := Int.eq_ofNat_of_zero_le h0
  have hj : j < xs.length := by omega
  exact ⟨xs[j], List.getElem_mem hj, atI_int hj⟩
end Py
namespace Py
open PySem D
local macro_rules
  | `(tactic| walk_at "w") => `(tactic| with_reducible first
    | refine seq_nx ?_ | refine seq_rt ?_ | refine seq_bk ?_ | refine seq_ct ?_ | refine wp_seq ?_ | refine wp_asg ?_ | refine wp_next ?_ | refine wp_ret ?_ | refine wp_retN ?_ | refine wp_brk ?_ | refine wp_cont ?_ | refine wp_expr ?_ | refine wp_op ?_ | refine wp_un ?_ | refine wp_c ?_
    | refine unB ?_ | refine wp_truB ?_ | refine wp_and ?_ | refine wp_or ?_ | refine wp_not ?_ | refine wp_ifE ?_ | refine wp_tup ?_ | refine wp_lst ?_ | refine wp_lcons ?_ | refine wp_lnil ?_ | refine frzV ?_ | refine frzN ?_ | refine wp_frz ?_ | refine wp_sl ?_ | refine wp_onone ?_ | refine wp_osome ?_
    | refine wp_anil ?_ | refine wp_av ?_ | refine wp_andV ?_ | refine wp_orV ?_ | refine wp_notV ?_ | refine wp_fgtR ?_ | refine turn_nx ?_ | refine turn_rt ?_ | refine turn_bk ?_ | refine turn_ct ?_ | refine fgt_rt ?_ | refine wp_par ?_ | refine wp_chain ?_ | refine wp_seqI ?_)
local macro_rules
  | `(tactic| walk_at "put") => `(tactic| focus ((repeat apply PutR.s); first | exact PutR.z rfl | exact PutR.z (by assumption)))
local macro_rules
  | `(tactic| walk_at "set") => `(tactic| focus ((repeat apply SetR.s); first | exact SetR.o | exact SetR.r))
local macro_rules
  | `(tactic| walk_at "fgt") => `(tactic| focus (repeat first | exact FgtsR.nil | exact FgtR.k | exact FgtR.z rfl | exact FgtR.z (by assumption) | apply FgtR.s | apply FgtsR.cons))
local macro_rules
  | `(tactic| walk_at "x") => `(tactic| first
    | ((with_reducible apply wp_varV); (focus exact rfl)) | ((with_reducible apply wp_varO); (focus exact rfl)) | ((with_reducible apply wp_varR); (focus exact rfl))
    | ((with_reducible apply opq); (focus exact rfl); (focus exact rfl); (focus (first | exact ev_eqI | exact ev_neI | exact ev_ltI | exact ev_leI | exact ev_gtI | exact ev_geI | exact ev_in2 | exact ev_in2n | exact ev_in4n | exact ev_isT | exact ev_isF | exact ev_isnT | exact ev_isnF | exact ev_strT | exact ev_strF n1 | exact ev_strF n2 | exact ev_strF n3 | exact ev_strF n4 | exact ev_strF n5 | exact ev_strF n6 | exact rfl)))
    | ((with_reducible apply unq); (focus exact rfl); (focus exact rfl))
    | ((with_reducible first | apply putqV | apply putqN); walk_at "put")
    | ((with_reducible apply putqB); (focus exact rfl); (focus exact rfl); walk_at "put"; walk_at "put")
    | ((with_reducible apply putq2); walk_at "put"; walk_at "put")
    | ((with_reducible apply parq); walk_at "put"; walk_at "put")
    | ((with_reducible apply wp_callR); (focus (repeat first | exact RefsR.nil | apply RefsR.v | apply RefsR.r)); (focus decide))
    | ((with_reducible apply wp_ar); (focus exact rfl))
    | ((with_reducible apply fin_rt); (focus exact rfl); (focus exact rfl))
    | ((with_reducible apply fin_nx); (focus exact rfl))
    | ((with_reducible apply wp_appendR); (focus exact rfl))
    | (with_reducible refine ⟨_, rfl, ?_⟩) | (with_reducible refine ⟨_, .inl rfl, ?_⟩) | (with_reducible refine ⟨_, .inr (.inl rfl), ?_⟩) | (with_reducible refine ⟨_, .inr (.inr rfl), ?_⟩)
    | (with_reducible apply callq0) | ((with_reducible apply frzB); (focus exact rfl); (focus exact rfl); walk_at "put")
    | ((with_reducible apply callq1); walk_at "set")
    | ((with_reducible apply callq2); walk_at "set"; walk_at "set")
    | ((with_reducible first | apply fgt_nx | apply fgt_bk | apply fgt_ct); walk_at "fgt")
    | ((with_reducible apply brT); (focus exact rfl)) | ((with_reducible apply brF); (focus exact rfl)))
local macro_rules
  | `(tactic| walk_at "r") => `(tactic| repeat first | walk_at "w" | walk_at "x")
local macro_rules
  | `(tactic| walk_at "ri") => `(tactic| repeat first | walk_at "w" | walk_at "x" | (with_reducible refine wp_if ?_))
local macro_rules
  | `(tactic| walk_at "app") => `(tactic| ((with_reducible apply appq); (focus exact rfl); (focus ((try simp only [List.length_map, List.length_nil, List.length_cons, List.length_append]); unfold line; omega)); walk_at "set"))
local macro_rules
  | `(tactic| walk_at "mul") => `(tactic| ((refine opq rfl rfl (ev_mul ?_) ?_); (focus (apply mulT <;> omega))))
local macro_rules
  | `(tactic| walk_at "rm") => `(tactic| repeat first | walk_at "w" | walk_at "x" | walk_at "mul")
local macro_rules
  | `(tactic| walk_at "len") => `(tactic| (refine And.intro ?_ ?_; (focus (simp [line]; done))))
local macro_rules
  | `(tactic| walk_at "rl") => `(tactic| repeat first | walk_at "w" | walk_at "x" | walk_at "len")
local macro_rules
  | `(tactic| walk_at "ril") => `(tactic| repeat first | walk_at "w" | walk_at "x" | walk_at "len" | (with_reducible refine wp_if ?_))
/-! two clauses -/
def InQ (g : MG) (vs : List Nat) (t : MT) (e : M) (xs : List PV) (ρ : Env) (Q : List PV → Env → Prop) : Prop := xs.length ≤ line ∧ ∃ zs ρ', lcF (lcTurn g vs t e) xs ρ = some (zs, ρ') ∧ Q zs ρ'
def Lc2Q (g : MG) (vs : List Nat) (t : MT) (it1 : MI) (g1 : MG) (vs1 : List Nat) (t1 : MT) (e : M) (x : PV) (ρ : Env) (Q : List PV → Env → Prop) : Prop :=
  PutQ g (.val x) (wipe ρ vs) fun ρ1 => Wp t ρ1 fun b ρ2 => (b = true → Wp it1 ρ2 fun xs ρ3 => InQ g1 vs1 t1 e xs ρ3 Q) ∧ (b = false → Q [] ρ2)
section
variable {g g1 : MG} {vs vs1 : List Nat} {t t1 : MT} {e : M} {ρ : Env} {it it1 : MI}
theorem inq {α : Type} (fn : α → PV) (P : List α → List PV → Env → Prop) (ys : List α) {Q : List PV → Env → Prop} (hz : ys.length ≤ line) (h0 : P [] [] ρ) (step : ∀ done y rest acc ρ, ys = done ++ y :: rest → P done acc ρ → LcQ g vs t e (fn y) ρ fun zs ρ2 => P (done ++ [y]) (acc ++ zs) ρ2)
    (hd : ∀ acc ρ, P ys acc ρ → Q acc ρ) : InQ g vs t e (ys.map fn) ρ Q := by
  have key : ∀ (rest done : List α) (acc : List PV) (ρ : Env), ys = done ++ rest → P done acc ρ → ∃ zs ρ', lcF (lcTurn g vs t e) (rest.map fn) ρ = some (zs, ρ') ∧ P ys (acc ++ zs) ρ' := by
    intro rest
    induction rest with
    | nil =>
      intro done acc ρ e p
      rw [List.append_nil] at e
      subst e
      exact ⟨[], ρ, rfl, by simpa using p⟩
    | cons y rest ih =>
      intro done acc ρ e p
      obtain ⟨ρ2, e2, b, ρ3, e3, h1, h2⟩ := step done y rest acc ρ e p
      have e' : ys = (done ++ [y]) ++ rest := by rw [e]; simp
      cases b with
      | true =>
        obtain ⟨r, ρ4, e4, v, ρ5, e5, q⟩ := h1 rfl
        obtain ⟨zs, ρ', e6, p'⟩ := ih _ _ ρ5 e' q
        exact ⟨v :: zs, ρ', by simp [lcF, lcTurn, e2, e3, e4, e5, e6], by simpa using p'⟩
      | false =>
        obtain ⟨zs, ρ', e6, p'⟩ := ih _ _ ρ3 e' (h2 rfl)
        exact ⟨zs, ρ', by simp [lcF, lcTurn, e2, e3, e6], by simpa using p'⟩
  obtain ⟨zs, ρ', e6, p'⟩ := key ys [] [] ρ rfl h0
  exact ⟨by rw [List.length_map]; exact hz, zs, ρ', e6, hd _ _ (by simpa using p')⟩
theorem wp_lc2 {α : Type} (fn : α → PV) (P : List α → List PV → Env → Prop) {Q : R → Env → Prop}
    (h : Wp it ρ fun xs ρ1 => ∃ ys : List α, xs = ys.map fn ∧ ys.length ≤ line ∧ P [] [] ρ1 ∧ (∀ done y rest acc ρ, ys = done ++ y :: rest → P done acc ρ → Lc2Q g vs t it1 g1 vs1 t1 e (fn y) ρ fun zs ρ2 => P (done ++ [y]) (acc ++ zs) ρ2) ∧ ∀ acc ρ, P ys acc ρ → acc.length ≤ line ∧ Q (.new (.lst acc)) (back ρ1 vs ρ)) :
    Wp (mLc2 it g vs t it1 g1 vs1 t1 e) ρ Q := by
  obtain ⟨xs, ρ1, e1, ys, rfl, hz, h0, step, hd⟩ := h
  have key : ∀ (rest done : List α) (acc : List PV) (ρ : Env), ys = done ++ rest → P done acc ρ → ∃ zs ρ', lcF (lcTurn2 g vs t it1 g1 vs1 t1 e) (rest.map fn) ρ = some (zs, ρ') ∧ P ys (acc ++ zs) ρ' := by
    intro rest
    induction rest with
    | nil =>
      intro done acc ρ e p
      rw [List.append_nil] at e
      subst e
      exact ⟨[], ρ, rfl, by simpa using p⟩
    | cons y rest ih =>
      intro done acc ρ e p
      obtain ⟨ρ2, e2, b, ρ3, e3, h1, h2⟩ := step done y rest acc ρ e p
      have e' : ys = (done ++ [y]) ++ rest := by rw [e]; simp
      cases b with
      | true =>
        obtain ⟨xs1, ρ4, e4, hz1, zs1, ρ5, e5, q⟩ := h1 rfl
        obtain ⟨zs, ρ', e6, p'⟩ := ih _ _ ρ5 e' q
        exact ⟨zs1 ++ zs, ρ', by simp [lcF, lcTurn2, e2, e3, e4, hz1, e5, e6], by simpa using p'⟩
      | false =>
        obtain ⟨zs, ρ', e6, p'⟩ := ih _ _ ρ3 e' (h2 rfl)
        exact ⟨zs, ρ', by simp [lcF, lcTurn2, e2, e3, e6], by simpa using p'⟩
  obtain ⟨zs, ρ', e6, p'⟩ := key ys [] [] ρ1 rfl h0
  have := hd _ _ (show P ys zs ρ' by simpa using p')
  exact ⟨.new (.lst zs), back ρ1 vs ρ', by simp only [mLc2, e1, Option.bind_some, List.length_map, if_pos hz, e6, if_pos this.1], this.2⟩
/-- no test -/
theorem lc2qY {x : PV} {ρ0 : Env} {Q : List PV → Env → Prop} (h0 : wipe ρ vs = ρ0) (h : PutQ g (.val x) ρ0 fun ρ1 => Wp it1 ρ1 fun xs ρ3 => InQ g1 vs1 t1 e xs ρ3 Q) : Lc2Q g vs tYes it1 g1 vs1 t1 e x ρ Q := by
  subst h0
  obtain ⟨ρ1, e1, q⟩ := h
  exact ⟨ρ1, e1, true, ρ1, rfl, fun _ => q, fun h => by cases h⟩
end
end Py
namespace Py
open PySem D
local macro_rules
  | `(tactic| walk_at "w") => `(tactic| with_reducible first
    | refine seq_nx ?_ | refine seq_rt ?_ | refine seq_bk ?_ | refine seq_ct ?_ | refine wp_seq ?_ | refine wp_asg ?_ | refine wp_next ?_ | refine wp_ret ?_ | refine wp_retN ?_ | refine wp_brk ?_ | refine wp_cont ?_ | refine wp_expr ?_ | refine wp_op ?_ | refine wp_un ?_ | refine wp_c ?_
    | refine unB ?_ | refine wp_truB ?_ | refine wp_and ?_ | refine wp_or ?_ | refine wp_not ?_ | refine wp_ifE ?_ | refine wp_tup ?_ | refine wp_lst ?_ | refine wp_lcons ?_ | refine wp_lnil ?_ | refine frzV ?_ | refine frzN ?_ | refine wp_frz ?_ | refine wp_sl ?_ | refine wp_onone ?_ | refine wp_osome ?_
    | refine wp_anil ?_ | refine wp_av ?_ | refine wp_andV ?_ | refine wp_orV ?_ | refine wp_notV ?_ | refine wp_fgtR ?_ | refine turn_nx ?_ | refine turn_rt ?_ | refine turn_bk ?_ | refine turn_ct ?_ | refine fgt_rt ?_ | refine wp_par ?_ | refine wp_chain ?_ | refine wp_seqI ?_)
local macro_rules
  | `(tactic| walk_at "put") => `(tactic| focus ((repeat apply PutR.s); first | exact PutR.z rfl | exact PutR.z (by assumption)))
local macro_rules
  | `(tactic| walk_at "set") => `(tactic| focus ((repeat apply SetR.s); first | exact SetR.o | exact SetR.r))
local macro_rules
  | `(tactic| walk_at "fgt") => `(tactic| focus (repeat first | exact FgtsR.nil | exact FgtR.k | exact FgtR.z rfl | exact FgtR.z (by assumption) | apply FgtR.s | apply FgtsR.cons))
local macro_rules
  | `(tactic| walk_at "x") => `(tactic| first
    | ((with_reducible apply wp_varV); (focus exact rfl)) | ((with_reducible apply wp_varO); (focus exact rfl)) | ((with_reducible apply wp_varR); (focus exact rfl))
    | ((with_reducible apply opq); (focus exact rfl); (focus exact rfl); (focus (first | exact ev_eqI | exact ev_neI | exact ev_ltI | exact ev_leI | exact ev_gtI | exact ev_geI | exact ev_in2 | exact ev_in2n | exact ev_in4n | exact ev_isT | exact ev_isF | exact ev_isnT | exact ev_isnF | exact ev_strT | exact ev_strF n1 | exact ev_strF n2 | exact ev_strF n3 | exact ev_strF n4 | exact ev_strF n5 | exact ev_strF n6 | exact rfl)))
    | ((with_reducible apply unq); (focus exact rfl); (focus exact rfl))
    | ((with_reducible first | apply putqV | apply putqN); walk_at "put")
    | ((with_reducible apply putqB); (focus exact rfl); (focus exact rfl); walk_at "put"; walk_at "put")
    | ((with_reducible apply putq2); walk_at "put"; walk_at "put")
    | ((with_reducible apply parq); walk_at "put"; walk_at "put")
    | ((with_reducible apply wp_callR); (focus (repeat first | exact RefsR.nil | apply RefsR.v | apply RefsR.r)); (focus decide))
    | ((with_reducible apply wp_ar); (focus exact rfl))
    | ((with_reducible apply fin_rt); (focus exact rfl); (focus exact rfl))
    | ((with_reducible apply fin_nx); (focus exact rfl))
    | ((with_reducible apply wp_appendR); (focus exact rfl))
    | (with_reducible refine ⟨_, rfl, ?_⟩) | (with_reducible refine ⟨_, .inl rfl, ?_⟩) | (with_reducible refine ⟨_, .inr (.inl rfl), ?_⟩) | (with_reducible refine ⟨_, .inr (.inr rfl), ?_⟩)
    | (with_reducible apply callq0) | ((with_reducible apply frzB); (focus exact rfl); (focus exact rfl); walk_at "put")
    | ((with_reducible apply callq1); walk_at "set")
    | ((with_reducible apply callq2); walk_at "set"; walk_at "set")
    | ((with_reducible first | apply fgt_nx | apply fgt_bk | apply fgt_ct); walk_at "fgt")
    | ((with_reducible apply brT); (focus exact rfl)) | ((with_reducible apply brF); (focus exact rfl)))
local macro_rules
  | `(tactic| walk_at "r") => `(tactic| repeat first | walk_at "w" | walk_at "x")
local macro_rules
  | `(tactic| walk_at "ri") => `(tactic| repeat first | walk_at "w" | walk_at "x" | (with_reducible refine wp_if ?_))
local macro_rules
  | `(tactic| walk_at "app") => `(tactic| ((with_reducible apply appq); (focus exact rfl); (focus ((try simp only [List.length_map, List.length_nil, List.length_cons, List.length_append]); unfold line; omega)); walk_at "set"))
local macro_rules
  | `(tactic| walk_at "mul") => `(tactic| ((refine opq rfl rfl (ev_mul ?_) ?_); (focus (apply mulT <;> omega))))
local macro_rules
  | `(tactic| walk_at "rm") => `(tactic| repeat first | walk_at "w" | walk_at "x" | walk_at "mul")
local macro_rules
  | `(tactic| walk_at "len") => `(tactic| (refine And.intro ?_ ?_; (focus (simp [line]; done))))
local macro_rules
  | `(tactic| walk_at "rl") => `(tactic| repeat first | walk_at "w" | walk_at "x" | walk_at "len")
local macro_rules
  | `(tactic| walk_at "ril") => `(tactic| repeat first | walk_at "w" | walk_at "x" | walk_at "len" | (with_reducible refine wp_if ?_))
instance {p : Int × Int} : Decidable (Low p) := by unfold Low; infer_instance
theorem eqvFr (p q : Int × Int) : PyData.eqv (fr p) (fr q) = decide (p = q) := by
  unfold fr
  simp only [PyData.eqv, PyData.eqvAll, Bool.and_true]
  by_cases c : p = q
  · subst c; simp
  · rw [decide_eq_false c]
    by_cases c1 : p.1 = q.1
    · have : p.2 ≠ q.2 := fun z => c (Prod.ext c1 z)
      simp [c1, this]
    · simp [c1]
def Okr (row : List (Int × Int)) : Prop := row.length ≤ 100 ∧ ∀ p ∈ row, Low p → Bt 350 p
def stakesB (m : Nat) (row : List (Int × Int)) : Bool := decide (row.length = m) && row.all (fun p => decide (Low p)) && row.all fun p => decide (0 ≤ p.1)
def sureB (n : Nat) (bets : List (List (Int × Int))) (row : List (Int × Int)) : Bool := stakesB bets.length row && (gainsV n bets row).all fun g => decide (0 < g.1)
section
variable {Q : R → List Ob → Prop} {ρ : Env} {n m : Nat} {bets : List (List (Int × Int))} {row : List (Int × Int)}
end
end Py
namespace Py
open PySem D
local macro_rules
  | `(tactic| walk_at "w") => `(tactic| with_reducible first
    | refine seq_nx ?_ | refine seq_rt ?_ | refine seq_bk ?_ | refine seq_ct ?_ | refine wp_seq ?_ | refine wp_asg ?_ | refine wp_next ?_ | refine wp_ret ?_ | refine wp_retN ?_ | refine wp_brk ?_ | refine wp_cont ?_ | refine wp_expr ?_ | refine wp_op ?_ | refine wp_un ?_ | refine wp_c ?_
    | refine unB ?_ | refine wp_truB ?_ | refine wp_and ?_ | refine wp_or ?_ | refine wp_not ?_ | refine wp_ifE ?_ | refine wp_tup ?_ | refine wp_lst ?_ | refine wp_lcons ?_ | refine wp_lnil ?_ | refine frzV ?_ | refine frzN ?_ | refine wp_frz ?_ | refine wp_sl ?_ | refine wp_onone ?_ | refine wp_osome ?_
    | refine wp_anil ?_ | refine wp_av ?_ | refine wp_andV ?_ | refine wp_orV ?_ | refine wp_notV ?_ | refine wp_fgtR ?_ | refine turn_nx ?_ | refine turn_rt ?_ | refine turn_bk ?_ | refine turn_ct ?_ | refine fgt_rt ?_ | refine wp_par ?_ | refine wp_chain ?_ | refine wp_seqI ?_)
local macro_rules
  | `(tactic| walk_at "put") => `(tactic| focus ((repeat apply PutR.s); first | exact PutR.z rfl | exact PutR.z (by assumption)))
local macro_rules
  | `(tactic| walk_at "set") => `(tactic| focus ((repeat apply SetR.s); first | exact SetR.o | exact SetR.r))
local macro_rules
  | `(tactic| walk_at "fgt") => `(tactic| focus (repeat first | exact FgtsR.nil | exact FgtR.k | exact FgtR.z rfl | exact FgtR.z (by assumption) | apply FgtR.s | apply FgtsR.cons))
local macro_rules
  | `(tactic| walk_at "x") => `(tactic| first
    | ((with_reducible apply wp_varV); (focus exact rfl)) | ((with_reducible apply wp_varO); (focus exact rfl)) | ((with_reducible apply wp_varR); (focus exact rfl))
    | ((with_reducible apply opq); (focus exact rfl); (focus exact rfl); (focus (first | exact ev_eqI | exact ev_neI | exact ev_ltI | exact ev_leI | exact ev_gtI | exact ev_geI | exact ev_in2 | exact ev_in2n | exact ev_in4n | exact ev_isT | exact ev_isF | exact ev_isnT | exact ev_isnF | exact ev_strT | exact ev_strF n1 | exact ev_strF n2 | exact ev_strF n3 | exact ev_strF n4 | exact ev_strF n5 | exact ev_strF n6 | exact rfl)))
    | ((with_reducible apply unq); (focus exact rfl); (focus exact rfl))
    | ((with_reducible first | apply putqV | apply putqN); walk_at "put")
    | ((with_reducible apply putqB); (focus exact rfl); (focus exact rfl); walk_at "put"; walk_at "put")
    | ((with_reducible apply putq2); walk_at "put"; walk_at "put")
    | ((with_reducible apply parq); walk_at "put"; walk_at "put")
    | ((with_reducible apply wp_callR); (focus (repeat first | exact RefsR.nil | apply RefsR.v | apply RefsR.r)); (focus decide))
    | ((with_reducible apply wp_ar); (focus exact rfl))
    | ((with_reducible apply fin_rt); (focus exact rfl); (focus exact rfl))
    | ((with_reducible apply fin_nx); (focus exact rfl))
    | ((with_reducible apply wp_appendR); (focus exact rfl))
    | (with_reducible refine ⟨_, rfl, ?_⟩) | (with_reducible refine ⟨_, .inl rfl, ?_⟩) | (with_reducible refine ⟨_, .inr (.inl rfl), ?_⟩) | (with_reducible refine ⟨_, .inr (.inr rfl), ?_⟩)
    | (with_reducible apply callq0) | ((with_reducible apply frzB); (focus exact rfl); (focus exact rfl); walk_at "put")
    | ((with_reducible apply callq1); walk_at "set")
    | ((with_reducible apply callq2); walk_at "set"; walk_at "set")
    | ((with_reducible first | apply fgt_nx | apply fgt_bk | apply fgt_ct); walk_at "fgt")
    | ((with_reducible apply brT); (focus exact rfl)) | ((with_reducible apply brF); (focus exact rfl)))
local macro_rules
  | `(tactic| walk_at "r") => `(tactic| repeat first | walk_at "w" | walk_at "x")
local macro_rules
  | `(tactic| walk_at "ri") => `(tactic| repeat first | walk_at "w" | walk_at "x" | (with_reducible refine wp_if ?_))
local macro_rules
  | `(tactic| walk_at "app") => `(tactic| ((with_reducible apply appq); (focus exact rfl); (focus ((try simp only [List.length_map, List.length_nil, List.length_cons, List.length_append]); unfold line; omega)); walk_at "set"))
local macro_rules
  | `(tactic| walk_at "mul") => `(tactic| ((refine opq rfl rfl (ev_mul ?_) ?_); (focus (apply mulT <;> omega))))
local macro_rules
  | `(tactic| walk_at "rm") => `(tactic| repeat first | walk_at "w" | walk_at "x" | walk_at "mul")
local macro_rules
  | `(tactic| walk_at "len") => `(tactic| (refine And.intro ?_ ?_; (focus (simp [line]; done))))
local macro_rules
  | `(tactic| walk_at "rl") => `(tactic| repeat first | walk_at "w" | walk_at "x" | walk_at "len")
local macro_rules
  | `(tactic| walk_at "ril") => `(tactic| repeat first | walk_at "w" | walk_at "x" | walk_at "len" | (with_reducible refine wp_if ?_))
structure Fb (m : Nat) (p : Int × Int) : Prop where
  low : Low p
  bt : Bt m p
theorem Fb.mono {m n : Nat} {p : Int × Int} (h : Fb m p) (hmn : m ≤ n) : Fb n p := ⟨h.low, h.bt.mono hmn⟩
theorem Fb.ne {m : Nat} {p : Int × Int} (h : Fb m p) : p.2 ≠ 0 := h.low.ne
theorem Fb.pos {m : Nat} {p : Int × Int} (h : Fb m p) : 0 < p.2 := h.low.1
def scaledV (row : List (Int × Int)) (by' : Int × Int) : List (Int × Int) := row.map fun p => timesV p by'
def shiftedV (row : List (Int × Int)) (by' : Int × Int) : List (Int × Int) := row.map fun p => plusV p by'
def turnedV (row : List (Int × Int)) : List (Int × Int) := row.map fun p => (-p.1, p.2)
def putV (row : List (Int × Int)) (j : Nat) (p : Int × Int) : List (Int × Int) := row.set j p
section
variable {Q : R → List Ob → Prop} {ρ : Env} {n m : Nat} {row : List (Int × Int)} {ns ds : List Int}
end
end Py
namespace Py
open PySem D
local macro_rules
  | `(tactic| walk_at "w") => `(tactic| with_reducible first
    | refine seq_nx ?_ | refine seq_rt ?_ | refine seq_bk ?_ | refine seq_ct ?_ | refine wp_seq ?_ | refine wp_asg ?_ | refine wp_next ?_ | refine wp_ret ?_ | refine wp_retN ?_ | refine wp_brk ?_ | refine wp_cont ?_ | refine wp_expr ?_ | refine wp_op ?_ | refine wp_un ?_ | refine wp_c ?_
    | refine unB ?_ | refine wp_truB ?_ | refine wp_and ?_ | refine wp_or ?_ | refine wp_not ?_ | refine wp_ifE ?_ | refine wp_tup ?_ | refine wp_lst ?_ | refine wp_lcons ?_ | refine wp_lnil ?_ | refine frzV ?_ | refine frzN ?_ | refine wp_frz ?_ | refine wp_sl ?_ | refine wp_onone ?_ | refine wp_osome ?_
    | refine wp_anil ?_ | refine wp_av ?_ | refine wp_andV ?_ | refine wp_orV ?_ | refine wp_notV ?_ | refine wp_fgtR ?_ | refine turn_nx ?_ | refine turn_rt ?_ | refine turn_bk ?_ | refine turn_ct ?_ | refine fgt_rt ?_ | refine wp_par ?_ | refine wp_chain ?_ | refine wp_seqI ?_)
local macro_rules
  | `(tactic| walk_at "put") => `(tactic| focus ((repeat apply PutR.s); first | exact PutR.z rfl | exact PutR.z (by assumption)))
local macro_rules
  | `(tactic| walk_at "set") => `(tactic| focus ((repeat apply SetR.s); first | exact SetR.o | exact SetR.r))
local macro_rules
  | `(tactic| walk_at "fgt") => `(tactic| focus (repeat first | exact FgtsR.nil | exact FgtR.k | exact FgtR.z rfl | exact FgtR.z (by assumption) | apply FgtR.s | apply FgtsR.cons))
local macro_rules
  | `(tactic| walk_at "x") => `(tactic| first
    | ((with_reducible apply wp_varV); (focus exact rfl)) | ((with_reducible apply wp_varO); (focus exact rfl)) | ((with_reducible apply wp_varR); (focus exact rfl))
    | ((with_reducible apply opq); (focus exact rfl); (focus exact rfl); (focus (first | exact ev_eqI | exact ev_neI | exact ev_ltI | exact ev_leI | exact ev_gtI | exact ev_geI | exact ev_in2 | exact ev_in2n | exact ev_in4n | exact ev_isT | exact ev_isF | exact ev_isnT | exact ev_isnF | exact ev_strT | exact ev_strF n1 | exact ev_strF n2 | exact ev_strF n3 | exact ev_strF n4 | exact ev_strF n5 | exact ev_strF n6 | exact rfl)))
    | ((with_reducible apply unq); (focus exact rfl); (focus exact rfl))
    | ((with_reducible first | apply putqV | apply putqN); walk_at "put")
    | ((with_reducible apply putqB); (focus exact rfl); (focus exact rfl); walk_at "put"; walk_at "put")
    | ((with_reducible apply putq2); walk_at "put"; walk_at "put")
    | ((with_reducible apply parq); walk_at "put"; walk_at "put")
    | ((with_reducible apply wp_callR); (focus (repeat first | exact RefsR.nil | apply RefsR.v | apply RefsR.r)); (focus decide))
    | ((with_reducible apply wp_ar); (focus exact rfl))
    | ((with_reducible apply fin_rt); (focus exact rfl); (focus exact rfl))
    | ((with_reducible apply fin_nx); (focus exact rfl))
    | ((with_reducible apply wp_appendR); (focus exact rfl))
    | (with_reducible refine ⟨_, rfl, ?_⟩) | (with_reducible refine ⟨_, .inl rfl, ?_⟩) | (with_reducible refine ⟨_, .inr (.inl rfl), ?_⟩) | (with_reducible refine ⟨_, .inr (.inr rfl), ?_⟩)
    | (with_reducible apply callq0) | ((with_reducible apply frzB); (focus exact rfl); (focus exact rfl); walk_at "put")
    | ((with_reducible apply callq1); walk_at "set")
    | ((with_reducible apply callq2); walk_at "set"; walk_at "set")
    | ((with_reducible first | apply fgt_nx | apply fgt_bk | apply fgt_ct); walk_at "fgt")
    | ((with_reducible apply brT); (focus exact rfl)) | ((with_reducible apply brF); (focus exact rfl)))
local macro_rules
  | `(tactic| walk_at "r") => `(tactic| repeat first | walk_at "w" | walk_at "x")
local macro_rules
  | `(tactic| walk_at "ri") => `(tactic| repeat first | walk_at "w" | walk_at "x" | (with_reducible refine wp_if ?_))
local macro_rules
  | `(tactic| walk_at "app") => `(tactic| ((with_reducible apply appq); (focus exact rfl); (focus ((try simp only [List.length_map, List.length_nil, List.length_cons, List.length_append]); unfold line; omega)); walk_at "set"))
local macro_rules
  | `(tactic| walk_at "mul") => `(tactic| ((refine opq rfl rfl (ev_mul ?_) ?_); (focus (apply mulT <;> omega))))
local macro_rules
  | `(tactic| walk_at "rm") => `(tactic| repeat first | walk_at "w" | walk_at "x" | walk_at "mul")
local macro_rules
  | `(tactic| walk_at "len") => `(tactic| (refine And.intro ?_ ?_; (focus (simp [line]; done))))
local macro_rules
  | `(tactic| walk_at "rl") => `(tactic| repeat first | walk_at "w" | walk_at "x" | walk_at "len")
local macro_rules
  | `(tactic| walk_at "ril") => `(tactic| repeat first | walk_at "w" | walk_at "x" | walk_at "len" | (with_reducible refine wp_if ?_))
theorem rat_nn {n d : Int} (hn : 0 ≤ n) (hd : 0 < d) : 0 ≤ (rat n d).1 := by
  have h1 := rat_cross (n := n) (d := d) (by omega)
  have h2 := (low_rat (n := n) (d := d) (by omega)).1
  rcases Int.lt_or_le (rat n d).1 0 with h | h
  · have h3 := Int.mul_nonneg hn (Int.le_of_lt h2)
    have h4 := Int.mul_neg_of_neg_of_pos h hd
    omega
  · exact h
structure Chs (n : Nat) (ch : List (Int × Int)) : Prop where
  len : ch.length = n
  fb : ∀ p ∈ ch, Fb 11 p ∧ 0 ≤ p.1
  sum : (ch.map qv).sum = 1
def dotR (ps qs : List (Int × Int)) : Rat := (List.zipWith (fun p q => qv p * qv q) ps qs).sum
section
end
end Py
namespace Py
open PySem D
local macro_rules
  | `(tactic| walk_at "w") => `(tactic| with_reducible first
    | refine seq_nx ?_ | refine seq_rt ?_ | refine seq_bk ?_ | refine seq_ct ?_ | refine wp_seq ?_ | refine wp_asg ?_ | refine wp_next ?_ | refine wp_ret ?_ | refine wp_retN ?_ | refine wp_brk ?_ | refine wp_cont ?_ | refine wp_expr ?_ | refine wp_op ?_ | refine wp_un ?_ | refine wp_c ?_
    | refine unB ?_ | refine wp_truB ?_ | refine wp_and ?_ | refine wp_or ?_ | refine wp_not ?_ | refine wp_ifE ?_ | refine wp_tup ?_ | refine wp_lst ?_ | refine wp_lcons ?_ | refine wp_lnil ?_ | refine frzV ?_ | refine frzN ?_ | refine wp_frz ?_ | refine wp_sl ?_ | refine wp_onone ?_ | refine wp_osome ?_
    | refine wp_anil ?_ | refine wp_av ?_ | refine wp_andV ?_ | refine wp_orV ?_ | refine wp_notV ?_ | refine wp_fgtR ?_ | refine turn_nx ?_ | refine turn_rt ?_ | refine turn_bk ?_ | refine turn_ct ?_ | refine fgt_rt ?_ | refine wp_par ?_ | refine wp_chain ?_ | refine wp_seqI ?_)
local macro_rules
  | `(tactic| walk_at "put") => `(tactic| focus ((repeat apply PutR.s); first | exact PutR.z rfl | exact PutR.z (by assumption)))
local macro_rules
  | `(tactic| walk_at "set") => `(tactic| focus ((repeat apply SetR.s); first | exact SetR.o | exact SetR.r))
local macro_rules
  | `(tactic| walk_at "fgt") => `(tactic| focus (repeat first | exact FgtsR.nil | exact FgtR.k | exact FgtR.z rfl | exact FgtR.z (by assumption) | apply FgtR.s | apply FgtsR.cons))
local macro_rules
  | `(tactic| walk_at "x") => `(tactic| first
    | ((with_reducible apply wp_varV); (focus exact rfl)) | ((with_reducible apply wp_varO); (focus exact rfl)) | ((with_reducible apply wp_varR); (focus exact rfl))
    | ((with_reducible apply opq); (focus exact rfl); (focus exact rfl); (focus (first | exact ev_eqI | exact ev_neI | exact ev_ltI | exact ev_leI | exact ev_gtI | exact ev_geI | exact ev_in2 | exact ev_in2n | exact ev_in4n | exact ev_isT | exact ev_isF | exact ev_isnT | exact ev_isnF | exact ev_strT | exact ev_strF n1 | exact ev_strF n2 | exact ev_strF n3 | exact ev_strF n4 | exact ev_strF n5 | exact ev_strF n6 | exact rfl)))
    | ((with_reducible apply unq); (focus exact rfl); (focus exact rfl))
    | ((with_reducible first | apply putqV | apply putqN); walk_at "put")
    | ((with_reducible apply putqB); (focus exact rfl); (focus exact rfl); walk_at "put"; walk_at "put")
    | ((with_reducible apply putq2); walk_at "put"; walk_at "put")
    | ((with_reducible apply parq); walk_at "put"; walk_at "put")
    | ((with_reducible apply wp_callR); (focus (repeat first | exact RefsR.nil | apply RefsR.v | apply RefsR.r)); (focus decide))
    | ((with_reducible apply wp_ar); (focus exact rfl))
    | ((with_reducible apply fin_rt); (focus exact rfl); (focus exact rfl))
    | ((with_reducible apply fin_nx); (focus exact rfl))
    | ((with_reducible apply wp_appendR); (focus exact rfl))
    | (with_reducible refine ⟨_, rfl, ?_⟩) | (with_reducible refine ⟨_, .inl rfl, ?_⟩) | (with_reducible refine ⟨_, .inr (.inl rfl), ?_⟩) | (with_reducible refine ⟨_, .inr (.inr rfl), ?_⟩)
    | (with_reducible apply callq0) | ((with_reducible apply frzB); (focus exact rfl); (focus exact rfl); walk_at "put")
    | ((with_reducible apply callq1); walk_at "set")
    | ((with_reducible apply callq2); walk_at "set"; walk_at "set")
    | ((with_reducible first | apply fgt_nx | apply fgt_bk | apply fgt_ct); walk_at "fgt")
    | ((with_reducible apply brT); (focus exact rfl)) | ((with_reducible apply brF); (focus exact rfl)))
local macro_rules
  | `(tactic| walk_at "r") => `(tactic| repeat first | walk_at "w" | walk_at "x")
local macro_rules
  | `(tactic| walk_at "ri") => `(tactic| repeat first | walk_at "w" | walk_at "x" | (with_reducible refine wp_if ?_))
local macro_rules
  | `(tactic| walk_at "app") => `(tactic| ((with_reducible apply appq); (focus exact rfl); (focus ((try simp only [List.length_map, List.length_nil, List.length_cons, List.length_append]); unfold line; omega)); walk_at "set"))
local macro_rules
  | `(tactic| walk_at "mul") => `(tactic| ((refine opq rfl rfl (ev_mul ?_) ?_); (focus (apply mulT <;> omega))))
local macro_rules
  | `(tactic| walk_at "rm") => `(tactic| repeat first | walk_at "w" | walk_at "x" | walk_at "mul")
local macro_rules
  | `(tactic| walk_at "len") => `(tactic| (refine And.intro ?_ ?_; (focus (simp [line]; done))))
local macro_rules
  | `(tactic| walk_at "rl") => `(tactic| repeat first | walk_at "w" | walk_at "x" | walk_at "len")
local macro_rules
  | `(tactic| walk_at "ril") => `(tactic| repeat first | walk_at "w" | walk_at "x" | walk_at "len" | (with_reducible refine wp_if ?_))
theorem Chs.bt {n : Nat} {ch : List (Int × Int)} (h : Chs n ch) : ∀ p ∈ ch, Bt 11 p := fun p hp => (h.fb p hp).1.bt
theorem Chs.pos {n : Nat} {ch : List (Int × Int)} (h : Chs n ch) : ∀ p ∈ ch, 0 < p.2 := fun p hp => (h.bt p hp).1
section
variable {Q : R → List Ob → Prop} {ρ : Env} {n m : Nat} {row ch : List (Int × Int)} {ns ds : List Int}
end
end Py
namespace Py
open PySem D
local macro_rules
  | `(tactic| walk_at "w") => `(tactic| with_reducible first
    | refine seq_nx ?_ | refine seq_rt ?_ | refine seq_bk ?_ | refine seq_ct ?_ | refine wp_seq ?_ | refine wp_asg ?_ | refine wp_next ?_ | refine wp_ret ?_ | refine wp_retN ?_ | refine wp_brk ?_ | refine wp_cont ?_ | refine wp_expr ?_ | refine wp_op ?_ | refine wp_un ?_ | refine wp_c ?_
    | refine unB ?_ | refine wp_truB ?_ | refine wp_and ?_ | refine wp_or ?_ | refine wp_not ?_ | refine wp_ifE ?_ | refine wp_tup ?_ | refine wp_lst ?_ | refine wp_lcons ?_ | refine wp_lnil ?_ | refine frzV ?_ | refine frzN ?_ | refine wp_frz ?_ | refine wp_sl ?_ | refine wp_onone ?_ | refine wp_osome ?_
    | refine wp_anil ?_ | refine wp_av ?_ | refine wp_andV ?_ | refine wp_orV ?_ | refine wp_notV ?_ | refine wp_fgtR ?_ | refine turn_nx ?_ | refine turn_rt ?_ | refine turn_bk ?_ | refine turn_ct ?_ | refine fgt_rt ?_ | refine wp_par ?_ | refine wp_chain ?_ | refine wp_seqI ?_)
local macro_rules
  | `(tactic| walk_at "put") => `(tactic| focus ((repeat apply PutR.s); first | exact PutR.z rfl | exact PutR.z (by assumption)))
local macro_rules
  | `(tactic| walk_at "set") => `(tactic| focus ((repeat apply SetR.s); first | exact SetR.o | exact SetR.r))
local macro_rules
  | `(tactic| walk_at "fgt") => `(tactic| focus (repeat first | exact FgtsR.nil | exact FgtR.k | exact FgtR.z rfl | exact FgtR.z (by assumption) | apply FgtR.s | apply FgtsR.cons))
local macro_rules
  | `(tactic| walk_at "x") => `(tactic| first
    | ((with_reducible apply wp_varV); (focus exact rfl)) | ((with_reducible apply wp_varO); (focus exact rfl)) | ((with_reducible apply wp_varR); (focus exact rfl))
    | ((with_reducible apply opq); (focus exact rfl); (focus exact rfl); (focus (first | exact ev_eqI | exact ev_neI | exact ev_ltI | exact ev_leI | exact ev_gtI | exact ev_geI | exact ev_in2 | exact ev_in2n | exact ev_in4n | exact ev_isT | exact ev_isF | exact ev_isnT | exact ev_isnF | exact ev_strT | exact ev_strF n1 | exact ev_strF n2 | exact ev_strF n3 | exact ev_strF n4 | exact ev_strF n5 | exact ev_strF n6 | exact rfl)))
    | ((with_reducible apply unq); (focus exact rfl); (focus exact rfl))
    | ((with_reducible first | apply putqV | apply putqN); walk_at "put")
    | ((with_reducible apply putqB); (focus exact rfl); (focus exact rfl); walk_at "put"; walk_at "put")
    | ((with_reducible apply putq2); walk_at "put"; walk_at "put")
    | ((with_reducible apply parq); walk_at "put"; walk_at "put")
    | ((with_reducible apply wp_callR); (focus (repeat first | exact RefsR.nil | apply RefsR.v | apply RefsR.r)); (focus decide))
    | ((with_reducible apply wp_ar); (focus exact rfl))
    | ((with_reducible apply fin_rt); (focus exact rfl); (focus exact rfl))
    | ((with_reducible apply fin_nx); (focus exact rfl))
    | ((with_reducible apply wp_appendR); (focus exact rfl))
    | (with_reducible refine ⟨_, rfl, ?_⟩) | (with_reducible refine ⟨_, .inl rfl, ?_⟩) | (with_reducible refine ⟨_, .inr (.inl rfl), ?_⟩) | (with_reducible refine ⟨_, .inr (.inr rfl), ?_⟩)
    | (with_reducible apply callq0) | ((with_reducible apply frzB); (focus exact rfl); (focus exact rfl); walk_at "put")
    | ((with_reducible apply callq1); walk_at "set")
    | ((with_reducible apply callq2); walk_at "set"; walk_at "set")
    | ((with_reducible first | apply fgt_nx | apply fgt_bk | apply fgt_ct); walk_at "fgt")
    | ((with_reducible apply brT); (focus exact rfl)) | ((with_reducible apply brF); (focus exact rfl)))
local macro_rules
  | `(tactic| walk_at "r") => `(tactic| repeat first | walk_at "w" | walk_at "x")
local macro_rules
  | `(tactic| walk_at "ri") => `(tactic| repeat first | walk_at "w" | walk_at "x" | (with_reducible refine wp_if ?_))
local macro_rules
  | `(tactic| walk_at "app") => `(tactic| ((with_reducible apply appq); (focus exact rfl); (focus ((try simp only [List.length_map, List.length_nil, List.length_cons, List.length_append]); unfold line; omega)); walk_at "set"))
local macro_rules
  | `(tactic| walk_at "mul") => `(tactic| ((refine opq rfl rfl (ev_mul ?_) ?_); (focus (apply mulT <;> omega))))
local macro_rules
  | `(tactic| walk_at "rm") => `(tactic| repeat first | walk_at "w" | walk_at "x" | walk_at "mul")
local macro_rules
  | `(tactic| walk_at "len") => `(tactic| (refine And.intro ?_ ?_; (focus (simp [line]; done))))
local macro_rules
  | `(tactic| walk_at "rl") => `(tactic| repeat first | walk_at "w" | walk_at "x" | walk_at "len")
local macro_rules
  | `(tactic| walk_at "ril") => `(tactic| repeat first | walk_at "w" | walk_at "x" | walk_at "len" | (with_reducible refine wp_if ?_))
theorem range_eq {n y : Nat} {done rest : List Nat} (e : List.range n = done ++ y :: rest) : y = done.length ∧ y < n := by
  have h : (List.range n)[done.length]? = some y := by rw [e]; simp
  obtain ⟨h1, h2⟩ := List.getElem?_eq_some_iff.mp h
  rw [List.getElem_range] at h2
  rw [List.length_range] at h1
  omega
section
variable {Q : R → List Ob → Prop} {ρ : Env} {n many : Nat} {ns ds : List Int}
def SbQ (n many : Nat) (B : List (List (Int × Int))) (S : List (Int × Int)) : Prop := B.length = many ∧ S.length = many ∧ (∀ b ∈ B, b.length = n ∧ ∀ p ∈ b, Fb 199 p) ∧ (∀ p ∈ S, Fb 30 p ∧ 0 ≤ p.1) ∧ ∀ j, j < n → ∃ A : Int × Int, Bt 61 A ∧ 0 < A.1 ∧ dotR S (col B j) = qv A
end
end Py
namespace Py
open PySem D
local macro_rules
  | `(tactic| walk_at "w") => `(tactic| with_reducible first
    | refine seq_nx ?_ | refine seq_rt ?_ | refine seq_bk ?_ | refine seq_ct ?_ | refine wp_seq ?_ | refine wp_asg ?_ | refine wp_next ?_ | refine wp_ret ?_ | refine wp_retN ?_ | refine wp_brk ?_ | refine wp_cont ?_ | refine wp_expr ?_ | refine wp_op ?_ | refine wp_un ?_ | refine wp_c ?_
    | refine unB ?_ | refine wp_truB ?_ | refine wp_and ?_ | refine wp_or ?_ | refine wp_not ?_ | refine wp_ifE ?_ | refine wp_tup ?_ | refine wp_lst ?_ | refine wp_lcons ?_ | refine wp_lnil ?_ | refine frzV ?_ | refine frzN ?_ | refine wp_frz ?_ | refine wp_sl ?_ | refine wp_onone ?_ | refine wp_osome ?_
    | refine wp_anil ?_ | refine wp_av ?_ | refine wp_andV ?_ | refine wp_orV ?_ | refine wp_notV ?_ | refine wp_fgtR ?_ | refine turn_nx ?_ | refine turn_rt ?_ | refine turn_bk ?_ | refine turn_ct ?_ | refine fgt_rt ?_ | refine wp_par ?_ | refine wp_chain ?_ | refine wp_seqI ?_)
local macro_rules
  | `(tactic| walk_at "put") => `(tactic| focus ((repeat apply PutR.s); first | exact PutR.z rfl | exact PutR.z (by assumption)))
local macro_rules
  | `(tactic| walk_at "set") => `(tactic| focus ((repeat apply SetR.s); first | exact SetR.o | exact SetR.r))
local macro_rules
  | `(tactic| walk_at "fgt") => `(tactic| focus (repeat first | exact FgtsR.nil | exact FgtR.k | exact FgtR.z rfl | exact FgtR.z (by assumption) | apply FgtR.s | apply FgtsR.cons))
local macro_rules
  | `(tactic| walk_at "x") => `(tactic| first
    | ((with_reducible apply wp_varV); (focus exact rfl)) | ((with_reducible apply wp_varO); (focus exact rfl)) | ((with_reducible apply wp_varR); (focus exact rfl))
    | ((with_reducible apply opq); (focus exact rfl); (focus exact rfl); (focus (first | exact ev_eqI | exact ev_neI | exact ev_ltI | exact ev_leI | exact ev_gtI | exact ev_geI | exact ev_in2 | exact ev_in2n | exact ev_in4n | exact ev_isT | exact ev_isF | exact ev_isnT | exact ev_isnF | exact ev_strT | exact ev_strF n1 | exact ev_strF n2 | exact ev_strF n3 | exact ev_strF n4 | exact ev_strF n5 | exact ev_strF n6 | exact rfl)))
    | ((with_reducible apply unq); (focus exact rfl); (focus exact rfl))
    | ((with_reducible first | apply putqV | apply putqN); walk_at "put")
    | ((with_reducible apply putqB); (focus exact rfl); (focus exact rfl); walk_at "put"; walk_at "put")
    | ((with_reducible apply putq2); walk_at "put"; walk_at "put")
    | ((with_reducible apply parq); walk_at "put"; walk_at "put")
    | ((with_reducible apply wp_callR); (focus (repeat first | exact RefsR.nil | apply RefsR.v | apply RefsR.r)); (focus decide))
    | ((with_reducible apply wp_ar); (focus exact rfl))
    | ((with_reducible apply fin_rt); (focus exact rfl); (focus exact rfl))
    | ((with_reducible apply fin_nx); (focus exact rfl))
    | ((with_reducible apply wp_appendR); (focus exact rfl))
    | (with_reducible refine ⟨_, rfl, ?_⟩) | (with_reducible refine ⟨_, .inl rfl, ?_⟩) | (with_reducible refine ⟨_, .inr (.inl rfl), ?_⟩) | (with_reducible refine ⟨_, .inr (.inr rfl), ?_⟩)
    | (with_reducible apply callq0) | ((with_reducible apply frzB); (focus exact rfl); (focus exact rfl); walk_at "put")
    | ((with_reducible apply callq1); walk_at "set")
    | ((with_reducible apply callq2); walk_at "set"; walk_at "set")
    | ((with_reducible first | apply fgt_nx | apply fgt_bk | apply fgt_ct); walk_at "fgt")
    | ((with_reducible apply brT); (focus exact rfl)) | ((with_reducible apply brF); (focus exact rfl)))
local macro_rules
  | `(tactic| walk_at "r") => `(tactic| repeat first | walk_at "w" | walk_at "x")
local macro_rules
  | `(tactic| walk_at "ri") => `(tactic| repeat first | walk_at "w" | walk_at "x" | (with_reducible refine wp_if ?_))
local macro_rules
  | `(tactic| walk_at "app") => `(tactic| ((with_reducible apply appq); (focus exact rfl); (focus ((try simp only [List.length_map, List.length_nil, List.length_cons, List.length_append]); unfold line; omega)); walk_at "set"))
local macro_rules
  | `(tactic| walk_at "mul") => `(tactic| ((refine opq rfl rfl (ev_mul ?_) ?_); (focus (apply mulT <;> omega))))
local macro_rules
  | `(tactic| walk_at "rm") => `(tactic| repeat first | walk_at "w" | walk_at "x" | walk_at "mul")
local macro_rules
  | `(tactic| walk_at "len") => `(tactic| (refine And.intro ?_ ?_; (focus (simp [line]; done))))
local macro_rules
  | `(tactic| walk_at "rl") => `(tactic| repeat first | walk_at "w" | walk_at "x" | walk_at "len")
local macro_rules
  | `(tactic| walk_at "ril") => `(tactic| repeat first | walk_at "w" | walk_at "x" | walk_at "len" | (with_reducible refine wp_if ?_))
def Okq (m : Nat) (row : List (Int × Int)) : Prop := row.length ≤ 100 ∧ ∀ p ∈ row, Low p → Bt m p
theorem Okq.mono {m n : Nat} {row : List (Int × Int)} (h : Okq m row) (hmn : m ≤ n) : Okq n row := ⟨h.1, fun p hp l => (h.2 p hp l).mono hmn⟩
def AllOk (m : Nat) (L : List (List (Int × Int))) : Prop := ∀ y ∈ L, Okq m y
theorem AllOk.snoc {m : Nat} {L : List (List (Int × Int))} (h : AllOk m L) {y : List (Int × Int)} (hy : Okq m y) : AllOk m (L ++ [y]) := fun z hz => (List.mem_append.mp hz).elim (h z) fun e => by rw [List.mem_singleton.mp e]; exact hy
section
variable {Q : R → List Ob → Prop} {ρ : Env} {m : Nat} {ns ds : List Int}
def mT : Nat → Nat
  | 0 => 60
  | 1 => 161
  | _ => 323
end
end Py
namespace Py
open PySem D
local macro_rules
  | `(tactic| walk_at "w") => `(tactic| with_reducible first
    | refine seq_nx ?_ | refine seq_rt ?_ | refine seq_bk ?_ | refine seq_ct ?_ | refine wp_seq ?_ | refine wp_asg ?_ | refine wp_next ?_ | refine wp_ret ?_ | refine wp_retN ?_ | refine wp_brk ?_ | refine wp_cont ?_ | refine wp_expr ?_ | refine wp_op ?_ | refine wp_un ?_ | refine wp_c ?_
    | refine unB ?_ | refine wp_truB ?_ | refine wp_and ?_ | refine wp_or ?_ | refine wp_not ?_ | refine wp_ifE ?_ | refine wp_tup ?_ | refine wp_lst ?_ | refine wp_lcons ?_ | refine wp_lnil ?_ | refine frzV ?_ | refine frzN ?_ | refine wp_frz ?_ | refine wp_sl ?_ | refine wp_onone ?_ | refine wp_osome ?_
    | refine wp_anil ?_ | refine wp_av ?_ | refine wp_andV ?_ | refine wp_orV ?_ | refine wp_notV ?_ | refine wp_fgtR ?_ | refine turn_nx ?_ | refine turn_rt ?_ | refine turn_bk ?_ | refine turn_ct ?_ | refine fgt_rt ?_ | refine wp_par ?_ | refine wp_chain ?_ | refine wp_seqI ?_)
local macro_rules
  | `(tactic| walk_at "put") => `(tactic| focus ((repeat apply PutR.s); first | exact PutR.z rfl | exact PutR.z (by assumption)))
local macro_rules
  | `(tactic| walk_at "set") => `(tactic| focus ((repeat apply SetR.s); first | exact SetR.o | exact SetR.r))
local macro_rules
  | `(tactic| walk_at "fgt") => `(tactic| focus (repeat first | exact FgtsR.nil | exact FgtR.k | exact FgtR.z rfl | exact FgtR.z (by assumption) | apply FgtR.s | apply FgtsR.cons))
local macro_rules
  | `(tactic| walk_at "x") => `(tactic| first
    | ((with_reducible apply wp_varV); (focus exact rfl)) | ((with_reducible apply wp_varO); (focus exact rfl)) | ((with_reducible apply wp_varR); (focus exact rfl))
    | ((with_reducible apply opq); (focus exact rfl); (focus exact rfl); (focus (first | exact ev_eqI | exact ev_neI | exact ev_ltI | exact ev_leI | exact ev_gtI | exact ev_geI | exact ev_in2 | exact ev_in2n | exact ev_in4n | exact ev_isT | exact ev_isF | exact ev_isnT | exact ev_isnF | exact ev_strT | exact ev_strF n1 | exact ev_strF n2 | exact ev_strF n3 | exact ev_strF n4 | exact ev_strF n5 | exact ev_strF n6 | exact rfl)))
    | ((with_reducible apply unq); (focus exact rfl); (focus exact rfl))
    | ((with_reducible first | apply putqV | apply putqN); walk_at "put")
    | ((with_reducible apply putqB); (focus exact rfl); (focus exact rfl); walk_at "put"; walk_at "put")
    | ((with_reducible apply putq2); walk_at "put"; walk_at "put")
    | ((with_reducible apply parq); walk_at "put"; walk_at "put")
    | ((with_reducible apply wp_callR); (focus (repeat first | exact RefsR.nil | apply RefsR.v | apply RefsR.r)); (focus decide))
    | ((with_reducible apply wp_ar); (focus exact rfl))
    | ((with_reducible apply fin_rt); (focus exact rfl); (focus exact rfl))
    | ((with_reducible apply fin_nx); (focus exact rfl))
    | ((with_reducible apply wp_appendR); (focus exact rfl))
    | (with_reducible refine ⟨_, rfl, ?_⟩) | (with_reducible refine ⟨_, .inl rfl, ?_⟩) | (with_reducible refine ⟨_, .inr (.inl rfl), ?_⟩) | (with_reducible refine ⟨_, .inr (.inr rfl), ?_⟩)
    | (with_reducible apply callq0) | ((with_reducible apply frzB); (focus exact rfl); (focus exact rfl); walk_at "put")
    | ((with_reducible apply callq1); walk_at "set")
    | ((with_reducible apply callq2); walk_at "set"; walk_at "set")
    | ((with_reducible first | apply fgt_nx | apply fgt_bk | apply fgt_ct); walk_at "fgt")
    | ((with_reducible apply brT); (focus exact rfl)) | ((with_reducible apply brF); (focus exact rfl)))
local macro_rules
  | `(tactic| walk_at "r") => `(tactic| repeat first | walk_at "w" | walk_at "x")
local macro_rules
  | `(tactic| walk_at "ri") => `(tactic| repeat first | walk_at "w" | walk_at "x" | (with_reducible refine wp_if ?_))
local macro_rules
  | `(tactic| walk_at "app") => `(tactic| ((with_reducible apply appq); (focus exact rfl); (focus ((try simp only [List.length_map, List.length_nil, List.length_cons, List.length_append]); unfold line; omega)); walk_at "set"))
local macro_rules
  | `(tactic| walk_at "mul") => `(tactic| ((refine opq rfl rfl (ev_mul ?_) ?_); (focus (apply mulT <;> omega))))
local macro_rules
  | `(tactic| walk_at "rm") => `(tactic| repeat first | walk_at "w" | walk_at "x" | walk_at "mul")
local macro_rules
  | `(tactic| walk_at "len") => `(tactic| (refine And.intro ?_ ?_; (focus (simp [line]; done))))
local macro_rules
  | `(tactic| walk_at "rl") => `(tactic| repeat first | walk_at "w" | walk_at "x" | walk_at "len")
local macro_rules
  | `(tactic| walk_at "ril") => `(tactic| repeat first | walk_at "w" | walk_at "x" | walk_at "len" | (with_reducible refine wp_if ?_))
/-! fair bets have no sure bet -/
def wS (n : Nat) (ch : List (Int × Int)) (f : Nat → Rat) : Rat := ((List.range n).map fun j => qv (ch.getD j (0, 1)) * f j).sum
end Py
namespace Py
open PySem D
local macro_rules
  | `(tactic| walk_at "w") => `(tactic| with_reducible first
    | refine seq_nx ?_ | refine seq_rt ?_ | refine seq_bk ?_ | refine seq_ct ?_ | refine wp_seq ?_ | refine wp_asg ?_ | refine wp_next ?_ | refine wp_ret ?_ | refine wp_retN ?_ | refine wp_brk ?_ | refine wp_cont ?_ | refine wp_expr ?_ | refine wp_op ?_ | refine wp_un ?_ | refine wp_c ?_
    | refine unB ?_ | refine wp_truB ?_ | refine wp_and ?_ | refine wp_or ?_ | refine wp_not ?_ | refine wp_ifE ?_ | refine wp_tup ?_ | refine wp_lst ?_ | refine wp_lcons ?_ | refine wp_lnil ?_ | refine frzV ?_ | refine frzN ?_ | refine wp_frz ?_ | refine wp_sl ?_ | refine wp_onone ?_ | refine wp_osome ?_
    | refine wp_anil ?_ | refine wp_av ?_ | refine wp_andV ?_ | refine wp_orV ?_ | refine wp_notV ?_ | refine wp_fgtR ?_ | refine turn_nx ?_ | refine turn_rt ?_ | refine turn_bk ?_ | refine turn_ct ?_ | refine fgt_rt ?_ | refine wp_par ?_ | refine wp_chain ?_ | refine wp_seqI ?_)
local macro_rules
  | `(tactic| walk_at "put") => `(tactic| focus ((repeat apply PutR.s); first | exact PutR.z rfl | exact PutR.z (by assumption)))
local macro_rules
  | `(tactic| walk_at "set") => `(tactic| focus ((repeat apply SetR.s); first | exact SetR.o | exact SetR.r))
local macro_rules
  | `(tactic| walk_at "fgt") => `(tactic| focus (repeat first | exact FgtsR.nil | exact FgtR.k | exact FgtR.z rfl | exact FgtR.z (by assumption) | apply FgtR.s | apply FgtsR.cons))
local macro_rules
  | `(tactic| walk_at "x") => `(tactic| first
    | ((with_reducible apply wp_varV); (focus exact rfl)) | ((with_reducible apply wp_varO); (focus exact rfl)) | ((with_reducible apply wp_varR); (focus exact rfl))
    | ((with_reducible apply opq); (focus exact rfl); (focus exact rfl); (focus (first | exact ev_eqI | exact ev_neI | exact ev_ltI | exact ev_leI | exact ev_gtI | exact ev_geI | exact ev_in2 | exact ev_in2n | exact ev_in4n | exact ev_isT | exact ev_isF | exact ev_isnT | exact ev_isnF | exact ev_strT | exact ev_strF n1 | exact ev_strF n2 | exact ev_strF n3 | exact ev_strF n4 | exact ev_strF n5 | exact ev_strF n6 | exact rfl)))
    | ((with_reducible apply unq); (focus exact rfl); (focus exact rfl))
    | ((with_reducible first | apply putqV | apply putqN); walk_at "put")
    | ((with_reducible apply putqB); (focus exact rfl); (focus exact rfl); walk_at "put"; walk_at "put")
    | ((with_reducible apply putq2); walk_at "put"; walk_at "put")
    | ((with_reducible apply parq); walk_at "put"; walk_at "put")
    | ((with_reducible apply wp_callR); (focus (repeat first | exact RefsR.nil | apply RefsR.v | apply RefsR.r)); (focus decide))
    | ((with_reducible apply wp_ar); (focus exact rfl))
    | ((with_reducible apply fin_rt); (focus exact rfl); (focus exact rfl))
    | ((with_reducible apply fin_nx); (focus exact rfl))
    | ((with_reducible apply wp_appendR); (focus exact rfl))
    | (with_reducible refine ⟨_, rfl, ?_⟩) | (with_reducible refine ⟨_, .inl rfl, ?_⟩) | (with_reducible refine ⟨_, .inr (.inl rfl), ?_⟩) | (with_reducible refine ⟨_, .inr (.inr rfl), ?_⟩)
    | (with_reducible apply callq0) | ((with_reducible apply frzB); (focus exact rfl); (focus exact rfl); walk_at "put")
    | ((with_reducible apply callq1); walk_at "set")
    | ((with_reducible apply callq2); walk_at "set"; walk_at "set")
    | ((with_reducible first | apply fgt_nx | apply fgt_bk | apply fgt_ct); walk_at "fgt")
    | ((with_reducible apply brT); (focus exact rfl)) | ((with_reducible apply brF); (focus exact rfl)))
local macro_rules
  | `(tactic| walk_at "r") => `(tactic| repeat first | walk_at "w" | walk_at "x")
local macro_rules
  | `(tactic| walk_at "ri") => `(tactic| repeat first | walk_at "w" | walk_at "x" | (with_reducible refine wp_if ?_))
local macro_rules
  | `(tactic| walk_at "app") => `(tactic| ((with_reducible apply appq); (focus exact rfl); (focus ((try simp only [List.length_map, List.length_nil, List.length_cons, List.length_append]); unfold line; omega)); walk_at "set"))
local macro_rules
  | `(tactic| walk_at "mul") => `(tactic| ((refine opq rfl rfl (ev_mul ?_) ?_); (focus (apply mulT <;> omega))))
local macro_rules
  | `(tactic| walk_at "rm") => `(tactic| repeat first | walk_at "w" | walk_at "x" | walk_at "mul")
local macro_rules
  | `(tactic| walk_at "len") => `(tactic| (refine And.intro ?_ ?_; (focus (simp [line]; done))))
local macro_rules
  | `(tactic| walk_at "rl") => `(tactic| repeat first | walk_at "w" | walk_at "x" | walk_at "len")
local macro_rules
  | `(tactic| walk_at "ril") => `(tactic| repeat first | walk_at "w" | walk_at "x" | walk_at "len" | (with_reducible refine wp_if ?_))
def chB (n : Nat) (row : List (Int × Int)) : Bool := stakesB n row && decide (dotV row (List.replicate n (1, 1)) = (1, 1))
def fairB (n : Nat) (bets : List (List (Int × Int))) (row : List (Int × Int)) : Bool := chB n row && bets.all fun b => decide ((dotV row b).1 ≤ 0)
section
variable {Q : R → List Ob → Prop} {ρ : Env} {n m : Nat} {bets : List (List (Int × Int))} {row : List (Int × Int)}
end
end Py
namespace Py
open PySem D
local macro_rules
  | `(tactic| walk_at "w") => `(tactic| with_reducible first
    | refine seq_nx ?_ | refine seq_rt ?_ | refine seq_bk ?_ | refine seq_ct ?_ | refine wp_seq ?_ | refine wp_asg ?_ | refine wp_next ?_ | refine wp_ret ?_ | refine wp_retN ?_ | refine wp_brk ?_ | refine wp_cont ?_ | refine wp_expr ?_ | refine wp_op ?_ | refine wp_un ?_ | refine wp_c ?_
    | refine unB ?_ | refine wp_truB ?_ | refine wp_and ?_ | refine wp_or ?_ | refine wp_not ?_ | refine wp_ifE ?_ | refine wp_tup ?_ | refine wp_lst ?_ | refine wp_lcons ?_ | refine wp_lnil ?_ | refine frzV ?_ | refine frzN ?_ | refine wp_frz ?_ | refine wp_sl ?_ | refine wp_onone ?_ | refine wp_osome ?_
    | refine wp_anil ?_ | refine wp_av ?_ | refine wp_andV ?_ | refine wp_orV ?_ | refine wp_notV ?_ | refine wp_fgtR ?_ | refine turn_nx ?_ | refine turn_rt ?_ | refine turn_bk ?_ | refine turn_ct ?_ | refine fgt_rt ?_ | refine wp_par ?_ | refine wp_chain ?_ | refine wp_seqI ?_)
local macro_rules
  | `(tactic| walk_at "put") => `(tactic| focus ((repeat apply PutR.s); first | exact PutR.z rfl | exact PutR.z (by assumption)))
local macro_rules
  | `(tactic| walk_at "set") => `(tactic| focus ((repeat apply SetR.s); first | exact SetR.o | exact SetR.r))
local macro_rules
  | `(tactic| walk_at "fgt") => `(tactic| focus (repeat first | exact FgtsR.nil | exact FgtR.k | exact FgtR.z rfl | exact FgtR.z (by assumption) | apply FgtR.s | apply FgtsR.cons))
local macro_rules
  | `(tactic| walk_at "x") => `(tactic| first
    | ((with_reducible apply wp_varV); (focus exact rfl)) | ((with_reducible apply wp_varO); (focus exact rfl)) | ((with_reducible apply wp_varR); (focus exact rfl))
    | ((with_reducible apply opq); (focus exact rfl); (focus exact rfl); (focus (first | exact ev_eqI | exact ev_neI | exact ev_ltI | exact ev_leI | exact ev_gtI | exact ev_geI | exact ev_in2 | exact ev_in2n | exact ev_in4n | exact ev_isT | exact ev_isF | exact ev_isnT | exact ev_isnF | exact ev_strT | exact ev_strF n1 | exact ev_strF n2 | exact ev_strF n3 | exact ev_strF n4 | exact ev_strF n5 | exact ev_strF n6 | exact rfl)))
    | ((with_reducible apply unq); (focus exact rfl); (focus exact rfl))
    | ((with_reducible first | apply putqV | apply putqN); walk_at "put")
    | ((with_reducible apply putqB); (focus exact rfl); (focus exact rfl); walk_at "put"; walk_at "put")
    | ((with_reducible apply putq2); walk_at "put"; walk_at "put")
    | ((with_reducible apply parq); walk_at "put"; walk_at "put")
    | ((with_reducible apply wp_callR); (focus (repeat first | exact RefsR.nil | apply RefsR.v | apply RefsR.r)); (focus decide))
    | ((with_reducible apply wp_ar); (focus exact rfl))
    | ((with_reducible apply fin_rt); (focus exact rfl); (focus exact rfl))
    | ((with_reducible apply fin_nx); (focus exact rfl))
    | ((with_reducible apply wp_appendR); (focus exact rfl))
    | (with_reducible refine ⟨_, rfl, ?_⟩) | (with_reducible refine ⟨_, .inl rfl, ?_⟩) | (with_reducible refine ⟨_, .inr (.inl rfl), ?_⟩) | (with_reducible refine ⟨_, .inr (.inr rfl), ?_⟩)
    | (with_reducible apply callq0) | ((with_reducible apply frzB); (focus exact rfl); (focus exact rfl); walk_at "put")
    | ((with_reducible apply callq1); walk_at "set")
    | ((with_reducible apply callq2); walk_at "set"; walk_at "set")
    | ((with_reducible first | apply fgt_nx | apply fgt_bk | apply fgt_ct); walk_at "fgt")
    | ((with_reducible apply brT); (focus exact rfl)) | ((with_reducible apply brF); (focus exact rfl)))
local macro_rules
  | `(tactic| walk_at "r") => `(tactic| repeat first | walk_at "w" | walk_at "x")
local macro_rules
  | `(tactic| walk_at "ri") => `(tactic| repeat first | walk_at "w" | walk_at "x" | (with_reducible refine wp_if ?_))
local macro_rules
  | `(tactic| walk_at "app") => `(tactic| ((with_reducible apply appq); (focus exact rfl); (focus ((try simp only [List.length_map, List.length_nil, List.length_cons, List.length_append]); unfold line; omega)); walk_at "set"))
local macro_rules
  | `(tactic| walk_at "mul") => `(tactic| ((refine opq rfl rfl (ev_mul ?_) ?_); (focus (apply mulT <;> omega))))
local macro_rules
  | `(tactic| walk_at "rm") => `(tactic| repeat first | walk_at "w" | walk_at "x" | walk_at "mul")
local macro_rules
  | `(tactic| walk_at "len") => `(tactic| (refine And.intro ?_ ?_; (focus (simp [line]; done))))
local macro_rules
  | `(tactic| walk_at "rl") => `(tactic| repeat first | walk_at "w" | walk_at "x" | walk_at "len")
local macro_rules
  | `(tactic| walk_at "ril") => `(tactic| repeat first | walk_at "w" | walk_at "x" | walk_at "len" | (with_reducible refine wp_if ?_))
/-- a row of sum 1 with a common denominator -/
structure Chd (D N : Nat) (n : Nat) (ch : List (Int × Int)) : Prop where
  len : ch.length = n
  low : ∀ p ∈ ch, Low p
  den : ∃ d : Int, 0 < d ∧ d ≤ D ∧ ∀ p ∈ ch, ∃ x : Int, x.natAbs ≤ N ∧ qv p = (x : Rat) / d
  sum : (ch.map qv).sum = 1
theorem Chd.pos {D N n : Nat} {ch : List (Int × Int)} (h : Chd D N n ch) : ∀ p ∈ ch, 0 < p.2 := fun p hp => (h.low p hp).1
theorem Chd.bt {n : Nat} {ch : List (Int × Int)} (h : Chd 16383 32767 n ch) : ∀ p ∈ ch, Bt 15 p := fun p hp => by
  obtain ⟨d, h1, h2, h3⟩ := h.den
  obtain ⟨x, h4, h5⟩ := h3 p hp
  have := low_bd (h.low p hp) (by omega) h5
  exact ⟨h.pos p hp, by omega, by omega⟩
theorem Chd.mono {D N D' N' n : Nat} {ch : List (Int × Int)} (h : Chd D N n ch) (h1 : D ≤ D') (h2 : N ≤ N') : Chd D' N' n ch := by
  obtain ⟨d, a, b, c⟩ := h.den
  exact ⟨h.len, h.low, ⟨d, a, by omega, fun p hp => by
    obtain ⟨x, e1, e2⟩ := c p hp
    exact ⟨x, by omega, e2⟩⟩, h.sum⟩
section
end
section
variable {Q : R → List Ob → Prop} {ρ : Env} {n m : Nat} {row ch : List (Int × Int)} {ns ds : List Int}
end
end Py
namespace Py
open PySem D
local macro_rules
  | `(tactic| walk_at "w") => `(tactic| with_reducible first
    | refine seq_nx ?_ | refine seq_rt ?_ | refine seq_bk ?_ | refine seq_ct ?_ | refine wp_seq ?_ | refine wp_asg ?_ | refine wp_next ?_ | refine wp_ret ?_ | refine wp_retN ?_ | refine wp_brk ?_ | refine wp_cont ?_ | refine wp_expr ?_ | refine wp_op ?_ | refine wp_un ?_ | refine wp_c ?_
    | refine unB ?_ | refine wp_truB ?_ | refine wp_and ?_ | refine wp_or ?_ | refine wp_not ?_ | refine wp_ifE ?_ | refine wp_tup ?_ | refine wp_lst ?_ | refine wp_lcons ?_ | refine wp_lnil ?_ | refine frzV ?_ | refine frzN ?_ | refine wp_frz ?_ | refine wp_sl ?_ | refine wp_onone ?_ | refine wp_osome ?_
    | refine wp_anil ?_ | refine wp_av ?_ | refine wp_andV ?_ | refine wp_orV ?_ | refine wp_notV ?_ | refine wp_fgtR ?_ | refine turn_nx ?_ | refine turn_rt ?_ | refine turn_bk ?_ | refine turn_ct ?_ | refine fgt_rt ?_ | refine wp_par ?_ | refine wp_chain ?_ | refine wp_seqI ?_)
local macro_rules
  | `(tactic| walk_at "put") => `(tactic| focus ((repeat apply PutR.s); first | exact PutR.z rfl | exact PutR.z (by assumption)))
local macro_rules
  | `(tactic| walk_at "set") => `(tactic| focus ((repeat apply SetR.s); first | exact SetR.o | exact SetR.r))
local macro_rules
  | `(tactic| walk_at "fgt") => `(tactic| focus (repeat first | exact FgtsR.nil | exact FgtR.k | exact FgtR.z rfl | exact FgtR.z (by assumption) | apply FgtR.s | apply FgtsR.cons))
local macro_rules
  | `(tactic| walk_at "x") => `(tactic| first
    | ((with_reducible apply wp_varV); (focus exact rfl)) | ((with_reducible apply wp_varO); (focus exact rfl)) | ((with_reducible apply wp_varR); (focus exact rfl))
    | ((with_reducible apply opq); (focus exact rfl); (focus exact rfl); (focus (first | exact ev_eqI | exact ev_neI | exact ev_ltI | exact ev_leI | exact ev_gtI | exact ev_geI | exact ev_in2 | exact ev_in2n | exact ev_in4n | exact ev_isT | exact ev_isF | exact ev_isnT | exact ev_isnF | exact ev_strT | exact ev_strF n1 | exact ev_strF n2 | exact ev_strF n3 | exact ev_strF n4 | exact ev_strF n5 | exact ev_strF n6 | exact rfl)))
    | ((with_reducible apply unq); (focus exact rfl); (focus exact rfl))
    | ((with_reducible first | apply putqV | apply putqN); walk_at "put")
    | ((with_reducible apply putqB); (focus exact rfl); (focus exact rfl); walk_at "put"; walk_at "put")
    | ((with_reducible apply putq2); walk_at "put"; walk_at "put")
    | ((with_reducible apply parq); walk_at "put"; walk_at "put")
    | ((with_reducible apply wp_callR); (focus (repeat first | exact RefsR.nil | apply RefsR.v | apply RefsR.r)); (focus decide))
    | ((with_reducible apply wp_ar); (focus exact rfl))
    | ((with_reducible apply fin_rt); (focus exact rfl); (focus exact rfl))
    | ((with_reducible apply fin_nx); (focus exact rfl))
    | ((with_reducible apply wp_appendR); (focus exact rfl))
    | (with_reducible refine ⟨_, rfl, ?_⟩) | (with_reducible refine ⟨_, .inl rfl, ?_⟩) | (with_reducible refine ⟨_, .inr (.inl rfl), ?_⟩) | (with_reducible refine ⟨_, .inr (.inr rfl), ?_⟩)
    | (with_reducible apply callq0) | ((with_reducible apply frzB); (focus exact rfl); (focus exact rfl); walk_at "put")
    | ((with_reducible apply callq1); walk_at "set")
    | ((with_reducible apply callq2); walk_at "set"; walk_at "set")
    | ((with_reducible first | apply fgt_nx | apply fgt_bk | apply fgt_ct); walk_at "fgt")
    | ((with_reducible apply brT); (focus exact rfl)) | ((with_reducible apply brF); (focus exact rfl)))
local macro_rules
  | `(tactic| walk_at "r") => `(tactic| repeat first | walk_at "w" | walk_at "x")
local macro_rules
  | `(tactic| walk_at "ri") => `(tactic| repeat first | walk_at "w" | walk_at "x" | (with_reducible refine wp_if ?_))
local macro_rules
  | `(tactic| walk_at "app") => `(tactic| ((with_reducible apply appq); (focus exact rfl); (focus ((try simp only [List.length_map, List.length_nil, List.length_cons, List.length_append]); unfold line; omega)); walk_at "set"))
local macro_rules
  | `(tactic| walk_at "mul") => `(tactic| ((refine opq rfl rfl (ev_mul ?_) ?_); (focus (apply mulT <;> omega))))
local macro_rules
  | `(tactic| walk_at "rm") => `(tactic| repeat first | walk_at "w" | walk_at "x" | walk_at "mul")
local macro_rules
  | `(tactic| walk_at "len") => `(tactic| (refine And.intro ?_ ?_; (focus (simp [line]; done))))
local macro_rules
  | `(tactic| walk_at "rl") => `(tactic| repeat first | walk_at "w" | walk_at "x" | walk_at "len")
local macro_rules
  | `(tactic| walk_at "ril") => `(tactic| repeat first | walk_at "w" | walk_at "x" | walk_at "len" | (with_reducible refine wp_if ?_))
section
variable {Q : R → List Ob → Prop} {ρ : Env} {n : Nat} {bets : List (List (Int × Int))} {ch : List (Int × Int)} {ds : List Int}
end
end Py
/-! QS1: tables of the simplex and Bland's rule, plain Rat. -/
namespace Smp
def sm : Nat → (Nat → Rat) → Rat
  | 0, _ => 0
  | n + 1, g => sm n g + g n
theorem sm_add (f g : Nat → Rat) : ∀ n, sm n (fun k => f k + g k) = sm n f + sm n g
  | 0 => by unfold sm; grind
  | n + 1 => by unfold sm; rw [sm_add f g n]; grind
theorem sm_mul (c : Rat) (f : Nat → Rat) : ∀ n, sm n (fun k => c * f k) = c * sm n f
  | 0 => by unfold sm; grind
  | n + 1 => by unfold sm; rw [sm_mul c f n]; grind
theorem sm_congr {f g : Nat → Rat} : ∀ {n}, (∀ k, k < n → f k = g k) → sm n f = sm n g
  | 0, _ => rfl
  | n + 1, h => by unfold sm; rw [sm_congr fun k hk => h k (by omega), h n (by omega)]
theorem sm_zero {f : Nat → Rat} : ∀ {n}, (∀ k, k < n → f k = 0) → sm n f = 0
  | 0, _ => rfl
  | n + 1, h => by unfold sm; rw [sm_zero fun k hk => h k (by omega), h n (by omega)]; grind
theorem sm_one {f : Nat → Rat} {i : Nat} : ∀ {n}, i < n → (∀ k, k < n → k ≠ i → f k = 0) → sm n f = f i
  | 0, h, _ => by omega
  | n + 1, h, hz => by
    unfold sm
    by_cases c : i = n
    · subst c
      rw [sm_zero fun k hk => hz k (by omega) (by omega)]
      grind
    · rw [sm_one (i := i) (by omega) fun k hk => hz k (by omega), hz n (by omega) (by omega)]
      grind
/-- a row that the rows make -/
def Lin (r : Nat) (T : Nat → Nat → Rat) (f : Nat → Rat) : Prop := ∃ μ : Nat → Rat, ∀ j, f j = sm r fun k => μ k * T k j
theorem lin_row {r : Nat} {T : Nat → Nat → Rat} {i : Nat} (h : i < r) : Lin r T (T i) := ⟨fun k => if k = i then 1 else 0, fun j => by
  rw [sm_one h fun k _ hk => by dsimp only; rw [if_neg hk]; grind]
  dsimp only
  rw [if_pos rfl]
  grind⟩
theorem lin_add {r : Nat} {T : Nat → Nat → Rat} {f g : Nat → Rat} (hf : Lin r T f) (hg : Lin r T g) : Lin r T fun j => f j + g j := by
  obtain ⟨μ, h1⟩ := hf
  obtain ⟨ν, h2⟩ := hg
  refine ⟨fun k => μ k + ν k, fun j => ?_⟩
  dsimp only
  rw [h1, h2, ← sm_add]
  exact sm_congr fun k _ => by grind
theorem lin_mul {r : Nat} {T : Nat → Nat → Rat} {f : Nat → Rat} (c : Rat) (hf : Lin r T f) : Lin r T fun j => c * f j := by
  obtain ⟨μ, h1⟩ := hf
  refine ⟨fun k => c * μ k, fun j => ?_⟩
  dsimp only
  rw [h1, ← sm_mul]
  exact sm_congr fun k _ => by grind
theorem lin_congr {r : Nat} {T : Nat → Nat → Rat} {f g : Nat → Rat} (h : ∀ j, f j = g j) (hf : Lin r T f) : Lin r T g := by
  obtain ⟨μ, h1⟩ := hf
  exact ⟨μ, fun j => by rw [← h j, h1]⟩
theorem lin_zero {r : Nat} {T : Nat → Nat → Rat} : Lin r T fun _ => 0 := ⟨fun _ => 0, fun j => (sm_zero fun k _ => by grind).symm⟩
theorem lin_trans {r : Nat} {T S : Nat → Nat → Rat} (h : ∀ i, i < r → Lin r S (T i)) {f : Nat → Rat} (hf : Lin r T f) : Lin r S f := by
  obtain ⟨μ, h1⟩ := hf
  have key : ∀ n, n ≤ r → Lin r S fun j => sm n fun k => μ k * T k j := by
    intro n
    induction n with
    | zero => intro _; exact lin_zero
    | succ n ih =>
      intro hn
      exact lin_congr (fun j => rfl) (lin_add (ih (by omega)) (lin_mul (μ n) (h n (by omega))))
  exact lin_congr (fun j => (h1 j).symm) (key r (Nat.le_refl _))
def pivT (T : Nat → Nat → Rat) (p s : Nat) : Nat → Nat → Rat := fun i j => if i = p then T p j / T p s else T i j - T i s * (T p j / T p s)
def pivL (T : Nat → Nat → Rat) (L : Nat → Rat) (p s : Nat) : Nat → Rat := fun j => L j - L s * (T p j / T p s)
def pivB (B : Nat → Nat) (p s : Nat) : Nat → Nat := fun i => if i = p then s else B i
theorem piv_lin {r : Nat} {T : Nat → Nat → Rat} {p s : Nat} (hp : p < r) : ∀ i, i < r → Lin r T (pivT T p s i) := fun i hi => by
  by_cases c : i = p
  · exact lin_congr (fun j => by unfold pivT; rw [if_pos c]; grind) (lin_mul (1 / T p s) (lin_row hp))
  · exact lin_congr (fun j => by unfold pivT; rw [if_neg c]; grind) (lin_add (lin_row hi) (lin_mul (-(T i s / T p s)) (lin_row hp)))
theorem lin_piv {r : Nat} {T : Nat → Nat → Rat} {p s : Nat} (hp : p < r) (h0 : T p s ≠ 0) : ∀ i, i < r → Lin r (pivT T p s) (T i) := fun i hi => by
  by_cases c : i = p
  · subst c
    exact lin_congr (fun j => by unfold pivT; rw [if_pos rfl]; grind) (lin_mul (T i s) (lin_row (T := pivT T i s) hp))
  · exact lin_congr (fun j => by unfold pivT; rw [if_neg c, if_pos rfl]; grind) (lin_add (lin_row (T := pivT T p s) hi) (lin_mul (T i s) (lin_row (T := pivT T p s) hp)))
/-- the basis columns of a table -/
structure Bas (r N : Nat) (T : Nat → Nat → Rat) (L : Nat → Rat) (B : Nat → Nat) : Prop where
  col : ∀ i k, i < r → k < r → T i (B k) = if i = k then 1 else 0
  zero : ∀ k, k < r → L (B k) = 0
  lt : ∀ k, k < r → B k < N
theorem Bas.coef {r N : Nat} {T : Nat → Nat → Rat} {L : Nat → Rat} {B : Nat → Nat} (h : Bas r N T L B) {f : Nat → Rat} (hf : Lin r T f) (j : Nat) : f j = sm r fun k => f (B k) * T k j := by
  obtain ⟨μ, h1⟩ := hf
  rw [h1]
  refine sm_congr fun k hk => ?_
  rw [h1, sm_one hk fun i hi hne => by rw [h.col i k hi hk, if_neg hne]; grind, h.col k k hk hk, if_pos rfl]
  grind
theorem Bas.piv {r N : Nat} {T : Nat → Nat → Rat} {L : Nat → Rat} {B : Nat → Nat} (h : Bas r N T L B) {p s : Nat} (hp : p < r) (hs : s < N) (h0 : T p s ≠ 0) : Bas r N (pivT T p s) (pivL T L p s) (pivB B p s) := by
  refine ⟨fun i k hi hk => ?_, fun k hk => ?_, fun k hk => ?_⟩
  · unfold pivT pivB
    by_cases ck : k = p
    · subst ck
      rw [if_pos rfl]
      by_cases ci : i = k
      · rw [if_pos ci, if_pos ci]; grind
      · rw [if_neg ci, if_neg ci]; grind
    · have e1 : T p (B k) = 0 := by rw [h.col p k hp hk, if_neg (fun z => ck z.symm)]
      rw [if_neg ck, e1]
      by_cases ci : i = p
      · subst ci
        rw [if_pos rfl, if_neg (show ¬ i = k from fun z => ck z.symm)]; grind
      · rw [if_neg ci, h.col i k hi hk]; grind
  · unfold pivL pivB
    by_cases ck : k = p
    · rw [if_pos ck]; grind
    · have e1 : T p (B k) = 0 := by rw [h.col p k hp hk, if_neg (fun z => ck z.symm)]
      rw [if_neg ck, h.zero k hk, e1]; grind
  · unfold pivB
    split
    · exact hs
    · exact h.lt k hk
end Smp
/-! QS2: Bland's rule ends. -/
namespace Smp
/-- a run of steps by Bland's rule -/
structure Run (r N k : Nat) (T : Nat → Nat → Nat → Rat) (L : Nat → Nat → Rat) (B : Nat → Nat → Nat) (p s : Nat → Nat) : Prop where
  bas : Bas r N (T 0) (L 0) (B 0)
  pr : ∀ t, t < k → p t < r
  sN : ∀ t, t < k → s t < N
  nT : ∀ t, t < k → T (t + 1) = pivT (T t) (p t) (s t)
  nL : ∀ t, t < k → L (t + 1) = pivL (T t) (L t) (p t) (s t)
  nB : ∀ t, t < k → B (t + 1) = pivB (B t) (p t) (s t)
  neg : ∀ t, t < k → L t (s t) < 0
  first : ∀ t, t < k → ∀ j, j < s t → 0 ≤ L t j
  pos : ∀ t, t < k → 0 < T t (p t) (s t)
  feas : ∀ t, t ≤ k → ∀ i, i < r → 0 ≤ T t i N
  leave : ∀ t, t < k → ∀ i, i < r → 0 < T t i (s t) → T t (p t) N = 0 → T t i N = 0 → B t (p t) ≤ B t i
section
variable {r N k : Nat} {T : Nat → Nat → Nat → Rat} {L : Nat → Nat → Rat} {B : Nat → Nat → Nat} {p s : Nat → Nat}
theorem Run.basAt (h : Run r N k T L B p s) : ∀ t, t ≤ k → Bas r N (T t) (L t) (B t)
  | 0, _ => h.bas
  | t + 1, ht => by
    have := (h.basAt t (by omega)).piv (h.pr t (by omega)) (h.sN t (by omega)) (by have := h.pos t (by omega); grind)
    rw [h.nT t (by omega), h.nL t (by omega), h.nB t (by omega)]
    exact this
theorem Run.ahead (h : Run r N k T L B p s) (t : Nat) : ∀ d, t + d ≤ k → (∀ i, i < r → Lin r (T t) (T (t + d) i)) ∧ (∀ i, i < r → Lin r (T (t + d)) (T t i)) ∧ Lin r (T t) fun j => L (t + d) j - L t j
  | 0, _ => ⟨fun i hi => lin_row hi, fun i hi => lin_row hi, lin_congr (fun j => by show (0 : Rat) = L (t + 0) j - L t j; rw [Nat.add_zero]; grind) lin_zero⟩
  | d + 1, hd => by
    obtain ⟨h1, h2, h3⟩ := h.ahead t d (by omega)
    have hp := h.pr (t + d) (by omega)
    have h0 : T (t + d) (p (t + d)) (s (t + d)) ≠ 0 := by have := h.pos (t + d) (by omega); grind
    have e1 : T (t + (d + 1)) = pivT (T (t + d)) (p (t + d)) (s (t + d)) := h.nT (t + d) (by omega)
    have e2 : L (t + (d + 1)) = pivL (T (t + d)) (L (t + d)) (p (t + d)) (s (t + d)) := h.nL (t + d) (by omega)
    rw [e1, e2]
    refine ⟨fun i hi => lin_trans h1 (piv_lin hp i hi), fun i hi => lin_trans (lin_piv hp h0) (h2 i hi), ?_⟩
    have h4 := lin_mul (-(L (t + d) (s (t + d)) / T (t + d) (p (t + d)) (s (t + d)))) (h1 _ hp)
    exact lin_congr (fun j => by unfold pivL; grind) (lin_add h3 h4)
theorem Run.lin (h : Run r N k T L B p s) {t u : Nat} (ht : t ≤ k) (hu : u ≤ k) : Lin r (T t) fun j => L u j - L t j := by
  rcases Nat.le_total t u with c | c
  · obtain ⟨d, rfl⟩ := Nat.exists_eq_add_of_le c
    exact (h.ahead t d hu).2.2
  · obtain ⟨d, rfl⟩ := Nat.exists_eq_add_of_le c
    obtain ⟨h1, h2, h3⟩ := h.ahead u d ht
    exact lin_congr (fun j => by grind) (lin_mul (-1) (lin_trans h2 h3))
/-- a column of the basis -/
def In (r : Nat) (B : Nat → Nat) (v : Nat) : Prop := ∃ i, i < r ∧ B i = v
theorem Run.inj (h : Run r N k T L B p s) {t : Nat} (ht : t ≤ k) {i j : Nat} (hi : i < r) (hj : j < r) (e : B t i = B t j) : i = j := by
  have hb := h.basAt t ht
  have h1 := hb.col i i hi hi
  rw [if_pos rfl, e, hb.col i j hi hj] at h1
  by_cases c : i = j
  · exact c
  · rw [if_neg c] at h1; grind
theorem Run.up (h : Run r N k T L B p s) {t : Nat} (ht : t < k) : L (t + 1) N = L t N + (-(L t (s t))) * (T t (p t) N / T t (p t) (s t)) := by
  rw [h.nL t ht]
  unfold pivL
  grind
theorem Run.rat_nn (h : Run r N k T L B p s) {t : Nat} (ht : t < k) : 0 ≤ T t (p t) N / T t (p t) (s t) := by
  have h1 := h.pos t ht
  have h2 := h.feas t (by omega) (p t) (h.pr t ht)
  rw [Rat.div_def]
  exact Rat.mul_nonneg h2 (Rat.le_of_lt (Rat.inv_pos.mpr h1))
theorem Run.mono (h : Run r N k T L B p s) (t : Nat) : ∀ d, t + d ≤ k → L t N ≤ L (t + d) N
  | 0, _ => Rat.le_refl
  | d + 1, hd => by
    have h1 := h.mono t d (by omega)
    have h2 := h.up (t := t + d) (by omega)
    have h3 := Rat.mul_nonneg (show 0 ≤ -(L (t + d) (s (t + d))) by have := h.neg (t + d) (by omega); grind) (h.rat_nn (t := t + d) (by omega))
    rw [show t + (d + 1) = t + d + 1 by omega, h2]
    grind
/-- the value of a column -/
def val (r N : Nat) (T : Nat → Nat → Rat) (B : Nat → Nat) (v : Nat) : Rat := sm r fun i => if B i = v then T i N else 0
theorem Run.enters (h : Run r N k T L B p s) (v t : Nat) : ∀ d, t + d ≤ k → ¬ In r (B t) v → In r (B (t + d)) v → ∃ e, e < k ∧ s e = v
  | 0, _, h1, h2 => absurd h2 h1
  | d + 1, hd, h1, h2 => by
    by_cases c : In r (B (t + d)) v
    · exact h.enters v t d (by omega) h1 c
    · obtain ⟨i, hi, e⟩ := h2
      rw [show t + (d + 1) = t + d + 1 by omega, h.nB (t + d) (by omega)] at e
      unfold pivB at e
      by_cases ci : i = p (t + d)
      · rw [if_pos ci] at e
        exact ⟨t + d, by omega, e⟩
      · rw [if_neg ci] at e
        exact absurd ⟨i, hi, e⟩ c
theorem Run.leaves (h : Run r N k T L B p s) (v t : Nat) : ∀ d, t + d ≤ k → In r (B t) v → ¬ In r (B (t + d)) v → ∃ e, e < k ∧ B e (p e) = v
  | 0, _, h1, h2 => absurd h1 h2
  | d + 1, hd, h1, h2 => by
    by_cases c : In r (B (t + d)) v
    · obtain ⟨i, hi, e⟩ := c
      by_cases ci : i = p (t + d)
      · exact ⟨t + d, by omega, by rw [← ci]; exact e⟩
      · refine absurd ⟨i, hi, ?_⟩ h2
        rw [show t + (d + 1) = t + d + 1 by omega, h.nB (t + d) (by omega)]
        unfold pivB
        rw [if_neg ci]
        exact e
    · exact h.leaves v t d (by omega) h1 c
end
end Smp
/-! QS3: what the last table shows. -/
namespace Smp
theorem feas_piv {r N : Nat} {T : Nat → Nat → Rat} {p s : Nat} (hp : p < r) (h0 : 0 < T p s) (hf : ∀ i, i < r → 0 ≤ T i N) (hr : ∀ i, i < r → 0 < T i s → T p N / T p s ≤ T i N / T i s) : ∀ i, i < r → 0 ≤ pivT T p s i N := fun i hi => by
  have q : 0 ≤ T p N / T p s := by
    rw [Rat.div_def]
    exact Rat.mul_nonneg (hf p hp) (Rat.le_of_lt (Rat.inv_pos.mpr h0))
  unfold pivT
  by_cases c : i = p
  · rw [if_pos c]; exact q
  · rw [if_neg c]
    by_cases c2 : 0 < T i s
    · have h1 := hr i hi c2
      have h2 := Rat.mul_le_mul_of_nonneg_left h1 (Rat.le_of_lt c2)
      have h3 : T i s * (T i N / T i s) = T i N := by
        have : T i s ≠ 0 := by grind
        grind
      grind
    · have h2 := Rat.mul_nonneg (show 0 ≤ -(T i s) by grind) q
      have h3 := hf i hi
      grind
theorem sm_swap (f : Nat → Nat → Rat) (m : Nat) : ∀ n, sm n (fun i => sm m fun j => f i j) = sm m fun j => sm n fun i => f i j
  | 0 => by
    show (0 : Rat) = _
    exact (sm_zero fun _ _ => rfl).symm
  | n + 1 => by
    show sm n (fun i => sm m fun j => f i j) + (sm m fun j => f n j) = _
    rw [sm_swap f m n, ← sm_add]
    exact sm_congr fun j _ => rfl
/-- the values of the columns -/
def xs (r N : Nat) (T : Nat → Nat → Rat) (B : Nat → Nat) (j : Nat) : Rat := val r N T B j
theorem Bas.dot {r N : Nat} {T : Nat → Nat → Rat} {L : Nat → Rat} {B : Nat → Nat} (h : Bas r N T L B) {f : Nat → Rat} : sm N (fun j => f j * xs r N T B j) = sm r fun k => f (B k) * T k N := by
  have e : sm N (fun j => f j * xs r N T B j) = sm N fun j => sm r fun i => f j * (if B i = j then T i N else 0) := sm_congr fun j _ => by
    unfold xs val
    rw [← sm_mul]
  rw [e, sm_swap (fun j i => f j * (if B i = j then T i N else 0)) r N]
  refine sm_congr fun i hi => ?_
  rw [sm_one (i := B i) (h.lt i hi) fun j _ hne => by rw [if_neg fun z => hne z.symm]; grind, if_pos rfl]
theorem Bas.row {r N : Nat} {T : Nat → Nat → Rat} {L : Nat → Rat} {B : Nat → Nat} (h : Bas r N T L B) {f : Nat → Rat} (hf : Lin r T f) : sm N (fun j => f j * xs r N T B j) = f N := by
  rw [h.dot, ← h.coef hf N]
theorem Bas.line {r N : Nat} {T : Nat → Nat → Rat} {L : Nat → Rat} {B : Nat → Nat} (h : Bas r N T L B) : sm N (fun j => L j * xs r N T B j) = 0 := by
  rw [h.dot]
  exact sm_zero fun k hk => by rw [h.zero k hk]; grind
/-- the first table -/
structure First (m r : Nat) (A : Nat → Nat → Rat) (b w : Nat → Rat) (T0 : Nat → Nat → Rat) (L0 : Nat → Rat) : Prop where
  a : ∀ i j, i < r → j < m → T0 i j = A i j
  fill : ∀ i k, i < r → k < r → T0 i (m + k) = if i = k then 1 else 0
  b : ∀ i, i < r → T0 i (m + r) = b i
  w : ∀ j, j < m → L0 j = - w j
  z : ∀ k, k < r → L0 (m + k) = 0
  zN : L0 (m + r) = 0
theorem First.bas {m r : Nat} {A : Nat → Nat → Rat} {b w : Nat → Rat} {T0 : Nat → Nat → Rat} {L0 : Nat → Rat} (h : First m r A b w T0 L0) : Bas r (m + r) T0 L0 fun i => m + i :=
  ⟨fun i k hi hk => h.fill i k hi hk, fun k hk => h.z k hk, fun k hk => by omega⟩
end Smp
/-! QS4: a bounded sum has a row that leaves. -/
namespace Smp
/-- the way along a column -/
def way (r : Nat) (T : Nat → Nat → Rat) (B : Nat → Nat) (s j : Nat) : Rat := (if j = s then 1 else 0) + sm r fun i => if B i = j then -(T i s) else 0
end Smp
/-! QS5: a run is not longer than there are bases. -/
namespace Smp
section
variable {r N k : Nat} {T : Nat → Nat → Nat → Rat} {L : Nat → Nat → Rat} {B : Nat → Nat → Nat} {p s : Nat → Nat}
end
/-- all rows of bits -/
def allB : Nat → List (List Bool)
  | 0 => [[]]
  | n + 1 => (allB n).map (true :: ·) ++ (allB n).map (false :: ·)
noncomputable def bits (r N : Nat) (B : Nat → Nat) : List Bool := by
  classical
  exact (List.range N).map fun j => decide (In r B j)
end Smp
/-! QS6: how many bits a table has. -/
namespace Smp
/-- a row with a common denominator, few bits -/
def Rep (N b : Nat) (f : Nat → Rat) : Prop := ∃ d : Int, d ≠ 0 ∧ d.natAbs < 2 ^ b ∧ ∀ j, j ≤ N → ∃ n : Int, n.natAbs < 2 ^ b ∧ f j = (n : Rat) / (d : Rat)
/-- a table that comes of the first one -/
structure Eqv (m r : Nat) (T0 : Nat → Nat → Rat) (L0 : Nat → Rat) (T : Nat → Nat → Rat) (L : Nat → Rat) (B : Nat → Nat) : Prop where
  bas : Bas r (m + r) T L B
  fro : ∀ i, i < r → Lin r T (T0 i)
  to : ∀ i, i < r → Lin r T0 (T i)
  lin : Lin r T fun j => L j - L0 j
theorem Eqv.piv {m r : Nat} {T0 : Nat → Nat → Rat} {L0 : Nat → Rat} {T : Nat → Nat → Rat} {L : Nat → Rat} {B : Nat → Nat} (h : Eqv m r T0 L0 T L B) {p s : Nat} (hp : p < r) (hs : s < m + r) (h0 : T p s ≠ 0) : Eqv m r T0 L0 (pivT T p s) (pivL T L p s) (pivB B p s) := by
  refine ⟨h.bas.piv hp hs h0, fun i hi => lin_trans (lin_piv hp h0) (h.fro i hi), fun i hi => lin_trans h.to (piv_lin hp i hi), ?_⟩
  refine lin_trans (lin_piv hp h0) ?_
  exact lin_congr (fun j => by unfold pivL; grind) (lin_add h.lin (lin_mul (-(L s / T p s)) (lin_row hp)))
def cn (m : Nat) (B : Nat → Nat) : Nat → Nat
  | 0 => 0
  | n + 1 => cn m B n + if B n < m then 1 else 0
def bq (b : Nat) : Nat → Nat
  | 0 => b
  | q + 1 => 2 * bq b q + 1
end Smp
/-! QS7: one denominator for all amounts and one for all prices. -/
namespace Smp
/-- times a factor it is an integer of few bits -/
def Itg (b : Nat) (x : Rat) : Prop := ∃ n : Int, n.natAbs < 2 ^ b ∧ x = (n : Rat)
def fac (m : Nat) (d : Nat → Int) (B : Nat → Nat) (i : Nat) : Rat := if B i < m then 1 else ((d (B i - m) : Int) : Rat)
end Smp
/-! QS8: the state of the loop and its history. -/
namespace Smp
def upd {α : Type} (f : Nat → α) (k : Nat) (x : α) : Nat → α := fun t => if t = k then x else f t
theorem upd_self {α : Type} (f : Nat → α) (k : Nat) (x : α) : upd f k x k = x := if_pos rfl
theorem upd_ne {α : Type} (f : Nat → α) (k : Nat) (x : α) {t : Nat} (h : t ≠ k) : upd f k x t = f t := if_neg h
/-- a state that a run of k steps led to -/
def At (m r : Nat) (T0 : Nat → Nat → Rat) (L0 : Nat → Rat) (k : Nat) (T : Nat → Nat → Rat) (L : Nat → Rat) (B : Nat → Nat) : Prop :=
  ∃ (Ts : Nat → Nat → Nat → Rat) (Ls : Nat → Nat → Rat) (Bs : Nat → Nat → Nat) (p s : Nat → Nat), Run r (m + r) k Ts Ls Bs p s ∧ Ts 0 = T0 ∧ Ls 0 = L0 ∧ Ts k = T ∧ Ls k = L ∧ Bs k = B
section
variable {m r k : Nat} {A : Nat → Nat → Rat} {bb w : Nat → Rat} {T0 T : Nat → Nat → Rat} {L0 L : Nat → Rat} {B : Nat → Nat}
theorem At.start (h0 : First m r A bb w T0 L0) (hb : ∀ i, i < r → 0 ≤ bb i) : At m r T0 L0 0 T0 L0 fun i => m + i :=
  ⟨fun _ => T0, fun _ => L0, fun _ i => m + i, fun _ => 0, fun _ => 0, {
    bas := h0.bas
    pr := fun t ht => by omega
    sN := fun t ht => by omega
    nT := fun t ht => by omega
    nL := fun t ht => by omega
    nB := fun t ht => by omega
    neg := fun t ht => by omega
    first := fun t ht => by omega
    pos := fun t ht => by omega
    feas := fun t ht i hi => by rw [h0.b i hi]; exact hb i hi
    leave := fun t ht => by omega }, rfl, rfl, rfl, rfl, rfl⟩
theorem At.feas (h : At m r T0 L0 k T L B) : ∀ i, i < r → 0 ≤ T i (m + r) := by
  obtain ⟨Ts, Ls, Bs, p, s, hr, _, _, rfl, _⟩ := h
  exact fun i hi => hr.feas k (Nat.le_refl k) i hi
theorem At.eqv (h : At m r T0 L0 k T L B) : Eqv m r T0 L0 T L B := by
  obtain ⟨Ts, Ls, Bs, p, s, hr, rfl, rfl, rfl, rfl, rfl⟩ := h
  have h1 := hr.basAt k (Nat.le_refl k)
  obtain ⟨h2, h3, h4⟩ := hr.ahead 0 k (by omega)
  rw [Nat.zero_add] at h2 h3 h4
  exact ⟨h1, h3, h2, lin_trans h3 h4⟩
theorem At.step (h : At m r T0 L0 k T L B) {p s : Nat} (hs : s < m + r) (hn : L s < 0) (hf : ∀ j, j < s → 0 ≤ L j) (hp : p < r) (h0 : 0 < T p s)
    (hr : ∀ i, i < r → 0 < T i s → T p (m + r) / T p s ≤ T i (m + r) / T i s) (ht : ∀ i, i < r → 0 < T i s → T i (m + r) / T i s = T p (m + r) / T p s → B p ≤ B i) :
    At m r T0 L0 (k + 1) (pivT T p s) (pivL T L p s) (pivB B p s) := by
  have hfe := feas_piv (N := m + r) hp h0 h.feas hr
  obtain ⟨Ts, Ls, Bs, ps, ss, hR, e1, e2, rfl, rfl, rfl⟩ := h
  have up : ∀ {α : Type} (f : Nat → α) (x : α) (t : Nat), t ≤ k → upd f (k + 1) x t = f t := fun f x t ht => upd_ne f _ x (by omega)
  have uk : ∀ {α : Type} (f : Nat → α) (x : α), upd f (k + 1) x (k + 1) = x := fun f x => upd_self f _ x
  have vp : ∀ {α : Type} (f : Nat → α) (x : α) (t : Nat), t < k → upd f k x t = f t := fun f x t ht => upd_ne f _ x (by omega)
  have vk : ∀ {α : Type} (f : Nat → α) (x : α), upd f k x k = x := fun f x => upd_self f _ x
  refine ⟨upd Ts (k + 1) (pivT (Ts k) p s), upd Ls (k + 1) (pivL (Ts k) (Ls k) p s), upd Bs (k + 1) (pivB (Bs k) p s),
    upd ps k p, upd ss k s, ?_, ?_, ?_, ?_, ?_, ?_⟩
  · constructor
    · rw [up _ _ 0 (by omega), up _ _ 0 (by omega), up _ _ 0 (by omega)]; exact hR.bas
    · intro t ht'
      by_cases c : t = k
      · subst c; rw [vk]; exact hp
      · rw [vp _ _ t (by omega)]; exact hR.pr t (by omega)
    · intro t ht'
      by_cases c : t = k
      · subst c; rw [vk]; exact hs
      · rw [vp _ _ t (by omega)]; exact hR.sN t (by omega)
    · intro t ht'
      by_cases c : t = k
      · subst c; rw [uk, up _ _ t (by omega), vk, vk]
      · rw [up _ _ (t + 1) (by omega), up _ _ t (by omega), vp _ _ t (by omega), vp _ _ t (by omega)]; exact hR.nT t (by omega)
    · intro t ht'
      by_cases c : t = k
      · subst c; rw [uk, up _ _ t (by omega), up _ _ t (by omega), vk, vk]
      · rw [up _ _ (t + 1) (by omega), up _ _ t (by omega), up _ _ t (by omega), vp _ _ t (by omega), vp _ _ t (by omega)]; exact hR.nL t (by omega)
    · intro t ht'
      by_cases c : t = k
      · subst c; rw [uk, up _ _ t (by omega), vk, vk]
      · rw [up _ _ (t + 1) (by omega), up _ _ t (by omega), vp _ _ t (by omega), vp _ _ t (by omega)]; exact hR.nB t (by omega)
    · intro t ht'
      by_cases c : t = k
      · subst c; rw [up _ _ t (by omega), vk]; exact hn
      · rw [up _ _ t (by omega), vp _ _ t (by omega)]; exact hR.neg t (by omega)
    · intro t ht'
      by_cases c : t = k
      · subst c; rw [up _ _ t (by omega), vk]; exact hf
      · rw [up _ _ t (by omega), vp _ _ t (by omega)]; exact hR.first t (by omega)
    · intro t ht'
      by_cases c : t = k
      · subst c; rw [up _ _ t (by omega), vk, vk]; exact h0
      · rw [up _ _ t (by omega), vp _ _ t (by omega), vp _ _ t (by omega)]; exact hR.pos t (by omega)
    · intro t ht'
      by_cases c : t = k + 1
      · subst c; rw [uk]; exact hfe
      · rw [up _ _ t (by omega)]; exact hR.feas t (by omega)
    · intro t ht'
      by_cases c : t = k
      · subst c
        rw [up _ _ t (by omega), up _ _ t (by omega), vk, vk]
        intro i hi hpos z1 z2
        refine ht i hi hpos ?_
        rw [z1, z2]
        grind
      · rw [up _ _ t (by omega), up _ _ t (by omega), vp _ _ t (by omega), vp _ _ t (by omega)]; exact hR.leave t (by omega)
  · rw [up _ _ 0 (by omega)]; exact e1
  · rw [up _ _ 0 (by omega)]; exact e2
  · exact uk _ _
  · exact uk _ _
  · exact uk _ _
/-- the column that enters -/
def Ent (N : Nat) (L : Nat → Rat) (s : Nat) : Prop := s < N ∧ L s < 0 ∧ ∀ j, j < s → 0 ≤ L j
/-- the row that leaves, of the first n -/
def Lea (N : Nat) (T : Nat → Nat → Rat) (B : Nat → Nat) (s n p : Nat) : Prop := p < n ∧ 0 < T p s ∧ (∀ i, i < n → 0 < T i s → T p N / T p s ≤ T i N / T i s) ∧ ∀ i, i < n → 0 < T i s → T i N / T i s = T p N / T p s → B p ≤ B i
/-- what is asked of the numbers -/
structure Num (m r b Q c : Nat) (T0 : Nat → Nat → Rat) (L0 : Nat → Rat) (d : Nat → Int) (dL : Int) : Prop where
  b1 : 1 ≤ b
  d0 : ∀ i, i < r → d i ≠ 0
  dB : ∀ i, i < r → (d i).natAbs < 2 ^ b
  T : ∀ i, i < r → ∀ j, j ≤ m + r → Itg b (T0 i j * (d i : Rat))
  dL0 : dL ≠ 0
  dLB : dL.natAbs < 2 ^ b
  L : ∀ j, j ≤ m + r → Itg b (L0 j * (dL : Rat))
  q : m ≤ Q ∨ r ≤ Q
  c : bq b Q + b ≤ c
/-- few bits above and below -/
def Rb (c : Nat) (x : Rat) : Prop := ∃ (n d : Int), d ≠ 0 ∧ n.natAbs < 2 ^ c ∧ d.natAbs < 2 ^ c ∧ x * (d : Rat) = (n : Rat)
end
end Smp
namespace Py
open PySem D
local macro_rules
  | `(tactic| walk_at "w") => `(tactic| with_reducible first
    | refine seq_nx ?_ | refine seq_rt ?_ | refine seq_bk ?_ | refine seq_ct ?_ | refine wp_seq ?_ | refine wp_asg ?_ | refine wp_next ?_ | refine wp_ret ?_ | refine wp_retN ?_ | refine wp_brk ?_ | refine wp_cont ?_ | refine wp_expr ?_ | refine wp_op ?_ | refine wp_un ?_ | refine wp_c ?_
    | refine unB ?_ | refine wp_truB ?_ | refine wp_and ?_ | refine wp_or ?_ | refine wp_not ?_ | refine wp_ifE ?_ | refine wp_tup ?_ | refine wp_lst ?_ | refine wp_lcons ?_ | refine wp_lnil ?_ | refine frzV ?_ | refine frzN ?_ | refine wp_frz ?_ | refine wp_sl ?_ | refine wp_onone ?_ | refine wp_osome ?_
    | refine wp_anil ?_ | refine wp_av ?_ | refine wp_andV ?_ | refine wp_orV ?_ | refine wp_notV ?_ | refine wp_fgtR ?_ | refine turn_nx ?_ | refine turn_rt ?_ | refine turn_bk ?_ | refine turn_ct ?_ | refine fgt_rt ?_ | refine wp_par ?_ | refine wp_chain ?_ | refine wp_seqI ?_)
local macro_rules
  | `(tactic| walk_at "put") => `(tactic| focus ((repeat apply PutR.s); first | exact PutR.z rfl | exact PutR.z (by assumption)))
local macro_rules
  | `(tactic| walk_at "set") => `(tactic| focus ((repeat apply SetR.s); first | exact SetR.o | exact SetR.r))
local macro_rules
  | `(tactic| walk_at "fgt") => `(tactic| focus (repeat first | exact FgtsR.nil | exact FgtR.k | exact FgtR.z rfl | exact FgtR.z (by assumption) | apply FgtR.s | apply FgtsR.cons))
local macro_rules
  | `(tactic| walk_at "x") => `(tactic| first
    | ((with_reducible apply wp_varV); (focus exact rfl)) | ((with_reducible apply wp_varO); (focus exact rfl)) | ((with_reducible apply wp_varR); (focus exact rfl))
    | ((with_reducible apply opq); (focus exact rfl); (focus exact rfl); (focus (first | exact ev_eqI | exact ev_neI | exact ev_ltI | exact ev_leI | exact ev_gtI | exact ev_geI | exact ev_in2 | exact ev_in2n | exact ev_in4n | exact ev_isT | exact ev_isF | exact ev_isnT | exact ev_isnF | exact ev_strT | exact ev_strF n1 | exact ev_strF n2 | exact ev_strF n3 | exact ev_strF n4 | exact ev_strF n5 | exact ev_strF n6 | exact rfl)))
    | ((with_reducible apply unq); (focus exact rfl); (focus exact rfl))
    | ((with_reducible first | apply putqV | apply putqN); walk_at "put")
    | ((with_reducible apply putqB); (focus exact rfl); (focus exact rfl); walk_at "put"; walk_at "put")
    | ((with_reducible apply putq2); walk_at "put"; walk_at "put")
    | ((with_reducible apply parq); walk_at "put"; walk_at "put")
    | ((with_reducible apply wp_callR); (focus (repeat first | exact RefsR.nil | apply RefsR.v | apply RefsR.r)); (focus decide))
    | ((with_reducible apply wp_ar); (focus exact rfl))
    | ((with_reducible apply fin_rt); (focus exact rfl); (focus exact rfl))
    | ((with_reducible apply fin_nx); (focus exact rfl))
    | ((with_reducible apply wp_appendR); (focus exact rfl))
    | (with_reducible refine ⟨_, rfl, ?_⟩) | (with_reducible refine ⟨_, .inl rfl, ?_⟩) | (with_reducible refine ⟨_, .inr (.inl rfl), ?_⟩) | (with_reducible refine ⟨_, .inr (.inr rfl), ?_⟩)
    | (with_reducible apply callq0) | ((with_reducible apply frzB); (focus exact rfl); (focus exact rfl); walk_at "put")
    | ((with_reducible apply callq1); walk_at "set")
    | ((with_reducible apply callq2); walk_at "set"; walk_at "set")
    | ((with_reducible first | apply fgt_nx | apply fgt_bk | apply fgt_ct); walk_at "fgt")
    | ((with_reducible apply brT); (focus exact rfl)) | ((with_reducible apply brF); (focus exact rfl)))
local macro_rules
  | `(tactic| walk_at "r") => `(tactic| repeat first | walk_at "w" | walk_at "x")
local macro_rules
  | `(tactic| walk_at "ri") => `(tactic| repeat first | walk_at "w" | walk_at "x" | (with_reducible refine wp_if ?_))
local macro_rules
  | `(tactic| walk_at "app") => `(tactic| ((with_reducible apply appq); (focus exact rfl); (focus ((try simp only [List.length_map, List.length_nil, List.length_cons, List.length_append]); unfold line; omega)); walk_at "set"))
local macro_rules
  | `(tactic| walk_at "mul") => `(tactic| ((refine opq rfl rfl (ev_mul ?_) ?_); (focus (apply mulT <;> omega))))
local macro_rules
  | `(tactic| walk_at "rm") => `(tactic| repeat first | walk_at "w" | walk_at "x" | walk_at "mul")
local macro_rules
  | `(tactic| walk_at "len") => `(tactic| (refine And.intro ?_ ?_; (focus (simp [line]; done))))
local macro_rules
  | `(tactic| walk_at "rl") => `(tactic| repeat first | walk_at "w" | walk_at "x" | walk_at "len")
local macro_rules
  | `(tactic| walk_at "ril") => `(tactic| repeat first | walk_at "w" | walk_at "x" | walk_at "len" | (with_reducible refine wp_if ?_))
/-! QUa: numbers as Rat: arithmetic of the program by rational numbers. -/
/-- a rational number as a pair -/
def rq (x : Rat) : PV := fr (x.num, (x.den : Int))
theorem low_num (x : Rat) : Low (x.num, (x.den : Int)) := ⟨by show (0 : Int) < x.den; have := x.den_pos; omega, by
  show Int.gcd x.num x.den = 1
  have := x.reduced
  unfold Nat.Coprime at this
  rw [Int.gcd]
  simpa using this⟩
theorem qv_nd (x : Rat) : qv (x.num, (x.den : Int)) = x := by
  have h := Rat.num_divInt_den x
  rw [Rat.divInt_eq_div] at h
  exact h
theorem num_qv {p : Int × Int} (h : Low p) : ((qv p).num, ((qv p).den : Int)) = p := low_qv (low_num _) h (qv_nd _)
theorem fr_rq {p : Int × Int} (h : Low p) : fr p = rq (qv p) := by unfold rq; rw [num_qv h]
theorem fr_rq' {p : Int × Int} {x : Rat} (h : Low p) (e : qv p = x) : fr p = rq x := by rw [fr_rq h, e]
/-- bits above and below -/
def Bq (m : Nat) (x : Rat) : Prop := x.num.natAbs < 2 ^ m ∧ x.den < 2 ^ m
theorem Bq.mono {m n : Nat} {x : Rat} (h : Bq m x) (hmn : m ≤ n) : Bq n x := by
  have hp := Nat.pow_le_pow_right (n := 2) (by decide) hmn
  exact ⟨by have := h.1; omega, by have := h.2; omega⟩
theorem Bq.bt {m : Nat} {x : Rat} (h : Bq m x) : Bt m (x.num, (x.den : Int)) := ⟨(low_num x).1, h.1, by simpa using h.2⟩
theorem bq_of {m : Nat} {x : Rat} {n d : Int} (hd : d ≠ 0) (e : x * (d : Rat) = (n : Rat)) (h1 : n.natAbs < 2 ^ m) (h2 : d.natAbs < 2 ^ m) : Bq m x := by
  have hc := ic_ne hd
  have := low_bd (p := (x.num, (x.den : Int))) (n := n) (d := d) (low_num x) hd (by rw [qv_nd]; grind)
  refine ⟨by have := this.1; dsimp only at this; omega, ?_⟩
  have h3 := this.2
  dsimp only at h3
  rw [Int.natAbs_natCast] at h3
  omega
theorem bq_qv {m : Nat} {p : Int × Int} (hl : Low p) (h : Bt m p) : Bq m (qv p) := by
  have e := num_qv hl
  have e1 : (qv p).num = p.1 := congrArg Prod.fst e
  have e2 : ((qv p).den : Int) = p.2 := congrArg Prod.snd e
  refine ⟨by rw [e1]; exact h.2.1, ?_⟩
  have := h.2.2
  rw [← e2, Int.natAbs_natCast] at this
  exact this
theorem bq_0 : Bq 1 0 := ⟨by decide, by decide⟩
theorem bq_1 : Bq 1 1 := ⟨by decide, by decide⟩
section
variable {x y : Rat} {m n : Nat}
theorem bq_val {p : Int × Int} {m : Nat} {x : Rat} (hl : Low p) (h : Bt m p) (e : qv p = x) : Bq m x := e ▸ bq_qv hl h
theorem bq_mul (hx : Bq m x) (hy : Bq n y) : Bq (m + n) (x * y) :=
  bq_val (low_times hx.bt.1 hy.bt.1) (bt_times hx.bt hy.bt) (by rw [qv_times (low_num x).ne (low_num y).ne, qv_nd, qv_nd])
theorem bq_add (hx : Bq m x) (hy : Bq n y) : Bq (m + n + 1) (x + y) :=
  bq_val (low_plus hx.bt.1 hy.bt.1) (bt_plus hx.bt hy.bt) (by rw [qv_plus (low_num x).ne (low_num y).ne, qv_nd, qv_nd])
variable {Q : R → List Ob → Prop}
theorem of_plusQ (hx : Bq m x) (hy : Bq n y) (h : m + n < 100000000) (k : Q (.val (rq (x + y))) []) : Ret d_plus [.val (rq x), .val (rq y)] Q := by
  refine of_plus (low_num x).ne (low_num y).ne (okM_bt hx.bt hy.bt h) ?_
  rw [fr_rq' (low_plus hx.bt.1 hy.bt.1) (by rw [qv_plus (low_num x).ne (low_num y).ne, qv_nd, qv_nd])]
  exact k
theorem of_timesQ (hx : Bq m x) (hy : Bq n y) (h : m + n < 100000000) (k : Q (.val (rq (x * y))) []) : Ret d_times [.val (rq x), .val (rq y)] Q := by
  refine of_times (low_num x).ne (low_num y).ne (okM_bt hx.bt hy.bt h) ?_
  rw [fr_rq' (low_times hx.bt.1 hy.bt.1) (by rw [qv_times (low_num x).ne (low_num y).ne, qv_nd, qv_nd])]
  exact k
theorem of_lessQ (hx : Bq m x) (hy : Bq n y) (h : m + n < 100000000) (k : Q (.val (.bool (decide (x < y)))) []) : Ret d_is_less [.val (rq x), .val (rq y)] Q := by
  refine of_less (okM_bt hx.bt hy.bt h) ?_
  rw [less_qv hx.bt.1 hy.bt.1, qv_nd, qv_nd]
  exact k
end
theorem ev_eqQ {x y : Rat} : fEq (.pv (rq x)) (.pv (rq y)) = some (.val (.bool (decide (x = y)))) := by
  have e : fEq (.pv (rq x)) (.pv (rq y)) = some (.val (.bool (false ^^ PyData.eqv (rq x) (rq y)))) := rfl
  rw [e, Bool.false_xor]
  unfold rq
  rw [eqvFr]
  congr 3
  refine decide_eq_decide.mpr ⟨fun h => ?_, fun h => by rw [h]⟩
  have h1 := congrArg Prod.fst h
  have h2 := congrArg Prod.snd h
  dsimp only at h1 h2
  exact Rat.ext h1 (by omega)
theorem ev_eqQ0 {x : Rat} : fEq (.pv (rq x)) (.pv (.tuple [.int 0, .int 1])) = some (.val (.bool (decide (x = 0)))) := ev_eqQ (y := 0)
theorem ev_eqQ1 {x : Rat} : fEq (.pv (rq x)) (.pv (.tuple [.int 1, .int 1])) = some (.val (.bool (decide (x = 1)))) := ev_eqQ (y := 1)
/-! rows -/
def rowP (n : Nat) (f : Nat → Rat) : List PV := (List.range n).map fun j => rq (f j)
theorem rowP_len {n : Nat} {f : Nat → Rat} : (rowP n f).length = n := by simp [rowP]
theorem rowP_at {n j : Nat} {f : Nat → Rat} (h : j < n) : (rowP n f)[j]? = some (rq (f j)) := by simp [rowP, h]
theorem rowP_map {n : Nat} {f : Nat → Rat} : (List.range n).map (fun j => rq (f j)) = rowP n f := rfl
/-! comprehensions that leave the names alone -/
theorem set_set {ρ : Env} {i : Nat} {a b : Option Sl} : (List.set ρ i a).set i b = List.set ρ i b := by simp
theorem wp_lcK {i : Nat} {it : MI} {e : M} {ρ ρ1 : Env} {Q : R → Env → Prop} (xs : List PV) (hv : Nat → PV) (hi : i < ρ1.length) (hl : xs.length ≤ line)
    (h : Wp it ρ fun ys ρ' => ys = xs ∧ ρ' = ρ1)
    (step : ∀ k (hk : k < xs.length), Wp e (List.set ρ1 i (some (.val xs[k]))) fun r ρ3 => FrzQ r ρ3 fun v ρ4 => v = hv k ∧ ρ4 = List.set ρ1 i (some (.val xs[k])))
    (q : Q (.new (.lst ((List.range xs.length).map hv))) ρ1) : Wp (mLc it (gName i) [i] tYes e) ρ Q := by
  refine wp_lc (fun x : PV => x) (fun done acc ρ' => acc = (List.range done.length).map hv ∧ ∃ u, ρ' = List.set ρ1 i u) ?_
  refine h.mono fun ys ρ' ⟨e1, e2⟩ => ?_
  subst e1 e2
  refine ⟨ys, by simp, hl, ⟨rfl, get ρ' i, ?_⟩, ?_, ?_⟩
  · unfold get
    rw [List.getElem?_eq_getElem hi]
    simp
  · rintro done y rest acc _ e3 ⟨rfl, u, rfl⟩
    have hk : done.length < ys.length := by rw [e3]; simp
    have hy : ys[done.length] = y := by simp [e3]
    have hs := step done.length hk
    rw [hy] at hs
    refine lcqY (ρ0 := List.set ρ' i none) (by show (List.set ρ' i u).set i none = _; exact set_set) ?_
    have hg : get (List.set ρ' i none) i = none := by
      unfold get
      rw [List.getElem?_set_self hi]
      rfl
    refine ⟨List.set ρ' i (some (.val y)), ?_, hs.mono fun r ρ3 ⟨v, ρ4, e4, e5, e6⟩ => ⟨_, _, e4, ?_, some (.val y), e6⟩⟩
    · show put i (some (.val y)) (List.set ρ' i none) = _
      unfold put
      rw [hg]
      show some ((List.set ρ' i none).set i (some (.val y))) = _
      rw [set_set]
    · rw [List.length_append, List.length_singleton, List.range_succ, List.map_append, e5]
      rfl
  · rintro acc _ ⟨rfl, u, rfl⟩
    have eb : back ρ' [i] (List.set ρ' i u) = ρ' := by
      show (List.set ρ' i u).set i (get ρ' i) = ρ'
      rw [set_set]
      unfold get
      rw [List.getElem?_eq_getElem hi]
      simp
    rw [eb]
    exact q
theorem wp_lcN {i : Nat} {a e : M} {ρ ρ1 : Env} {Q : R → Env → Prop} (n : Nat) (hv : Nat → PV) (hi : i < ρ1.length) (hl : n ≤ line)
    (h : Wp a ρ fun x ρ' => look x ρ' = some (.pv (.int n)) ∧ ρ' = ρ1)
    (step : ∀ k, k < n → Wp e (List.set ρ1 i (some (.val (natI k)))) fun r ρ3 => FrzQ r ρ3 fun v ρ4 => v = hv k ∧ ρ4 = List.set ρ1 i (some (.val (natI k))))
    (q : Q (.new (.lst ((List.range n).map hv))) ρ1) : Wp (mLc (iRng1 a) (gName i) [i] tYes e) ρ Q := by
  have hz : ((List.range n).map fun (k : Nat) => PyData.int (k : Int)).length = n := by simp
  refine wp_lcK ((List.range n).map fun (k : Nat) => PyData.int (k : Int)) hv hi (by rw [hz]; exact hl) (wp_rng1 (h.mono fun x ρ' ⟨h1, h2⟩ => ⟨n, h1, ⟨by exact_mod_cast hl, by omega⟩, by simp, h2⟩)) (fun k hk => ?_) (by rw [hz]; exact q)
  have : ((List.range n).map fun (k : Nat) => PyData.int (k : Int))[k] = natI k := by simp [natI]
  rw [this]
  exact step k (by rw [hz] at hk; exact hk)
theorem wp_lcS {i : Nat} {a e : M} {ρ ρ1 : Env} {Q : R → Env → Prop} (xs : List PV) (hv : Nat → PV) (hi : i < ρ1.length) (hl : xs.length ≤ line)
    (h : Wp a ρ fun x ρ' => (x = .val (.list xs) ∨ x = .val (.tuple xs) ∨ x = .new (.lst xs)) ∧ ρ' = ρ1)
    (step : ∀ k (hk : k < xs.length), Wp e (List.set ρ1 i (some (.val xs[k]))) fun r ρ3 => FrzQ r ρ3 fun v ρ4 => v = hv k ∧ ρ4 = List.set ρ1 i (some (.val xs[k])))
    (q : Q (.new (.lst ((List.range xs.length).map hv))) ρ1) : Wp (mLc (iSeq a) (gName i) [i] tYes e) ρ Q :=
  wp_lcK xs hv hi hl (wp_seqI (h.mono fun x ρ' ⟨h1, h2⟩ => ⟨xs, h1, rfl, h2⟩)) step q
theorem wp_lcP {i : Nat} {a e : M} {ρ ρ1 : Env} {Q : R → Env → Prop} (n : Nat) (f : Nat → Rat) (hv : Nat → PV) (hi : i < ρ1.length) (hl : n ≤ line)
    (h : Wp a ρ fun x ρ' => (x = .val (.list (rowP n f)) ∨ x = .val (.tuple (rowP n f)) ∨ x = .new (.lst (rowP n f))) ∧ ρ' = ρ1)
    (step : ∀ k, k < n → Wp e (List.set ρ1 i (some (.val (rq (f k))))) fun r ρ3 => FrzQ r ρ3 fun v ρ4 => v = hv k ∧ ρ4 = List.set ρ1 i (some (.val (rq (f k)))))
    (q : Q (.new (.lst ((List.range n).map hv))) ρ1) : Wp (mLc (iSeq a) (gName i) [i] tYes e) ρ Q := by
  refine wp_lcS (rowP n f) hv hi (by rw [rowP_len]; exact hl) h (fun k hk => ?_) (by rw [rowP_len]; exact q)
  have e1 : (rowP n f)[k] = rq (f k) := by simp [rowP]
  rw [e1]
  exact step k (by rw [rowP_len] at hk; exact hk)
/-- the tables -/
def tabP (r n : Nat) (T : Nat → Nat → Rat) : List PV := (List.range r).map fun i => .list (rowP n (T i))
def basP (r : Nat) (B : Nat → Nat) : List PV := (List.range r).map fun i => natI (B i)
end Py
namespace Py
open PySem D
local macro_rules
  | `(tactic| walk_at "w") => `(tactic| with_reducible first
    | refine seq_nx ?_ | refine seq_rt ?_ | refine seq_bk ?_ | refine seq_ct ?_ | refine wp_seq ?_ | refine wp_asg ?_ | refine wp_next ?_ | refine wp_ret ?_ | refine wp_retN ?_ | refine wp_brk ?_ | refine wp_cont ?_ | refine wp_expr ?_ | refine wp_op ?_ | refine wp_un ?_ | refine wp_c ?_
    | refine unB ?_ | refine wp_truB ?_ | refine wp_and ?_ | refine wp_or ?_ | refine wp_not ?_ | refine wp_ifE ?_ | refine wp_tup ?_ | refine wp_lst ?_ | refine wp_lcons ?_ | refine wp_lnil ?_ | refine frzV ?_ | refine frzN ?_ | refine wp_frz ?_ | refine wp_sl ?_ | refine wp_onone ?_ | refine wp_osome ?_
    | refine wp_anil ?_ | refine wp_av ?_ | refine wp_andV ?_ | refine wp_orV ?_ | refine wp_notV ?_ | refine wp_fgtR ?_ | refine turn_nx ?_ | refine turn_rt ?_ | refine turn_bk ?_ | refine turn_ct ?_ | refine fgt_rt ?_ | refine wp_par ?_ | refine wp_chain ?_ | refine wp_seqI ?_)
local macro_rules
  | `(tactic| walk_at "put") => `(tactic| focus ((repeat apply PutR.s); first | exact PutR.z rfl | exact PutR.z (by assumption)))
local macro_rules
  | `(tactic| walk_at "set") => `(tactic| focus ((repeat apply SetR.s); first | exact SetR.o | exact SetR.r))
local macro_rules
  | `(tactic| walk_at "fgt") => `(tactic| focus (repeat first | exact FgtsR.nil | exact FgtR.k | exact FgtR.z rfl | exact FgtR.z (by assumption) | apply FgtR.s | apply FgtsR.cons))
local macro_rules
  | `(tactic| walk_at "x") => `(tactic| first
    | ((with_reducible apply wp_varV); (focus exact rfl)) | ((with_reducible apply wp_varO); (focus exact rfl)) | ((with_reducible apply wp_varR); (focus exact rfl))
    | ((with_reducible apply opq); (focus exact rfl); (focus exact rfl); (focus (first | exact ev_eqI | exact ev_neI | exact ev_ltI | exact ev_leI | exact ev_gtI | exact ev_geI | exact ev_in2 | exact ev_in2n | exact ev_in4n | exact ev_isT | exact ev_isF | exact ev_isnT | exact ev_isnF | exact ev_eqQ0 | exact ev_eqQ1 | exact ev_eqQ | exact ev_neQ | exact ev_strT | exact ev_strF n1 | exact ev_strF n2 | exact ev_strF n3 | exact ev_strF n4 | exact ev_strF n5 | exact ev_strF n6 | exact rfl)))
    | ((with_reducible apply unq); (focus exact rfl); (focus exact rfl))
    | ((with_reducible first | apply putqV | apply putqN); walk_at "put")
    | ((with_reducible apply putqB); (focus exact rfl); (focus exact rfl); walk_at "put"; walk_at "put")
    | ((with_reducible apply putq2); walk_at "put"; walk_at "put")
    | ((with_reducible apply parq); walk_at "put"; walk_at "put")
    | ((with_reducible apply wp_callR); (focus (repeat first | exact RefsR.nil | apply RefsR.v | apply RefsR.r)); (focus decide))
    | ((with_reducible apply wp_ar); (focus exact rfl))
    | ((with_reducible apply fin_rt); (focus exact rfl); (focus exact rfl))
    | ((with_reducible apply fin_nx); (focus exact rfl))
    | ((with_reducible apply wp_appendR); (focus exact rfl))
    | (with_reducible refine ⟨_, rfl, ?_⟩) | (with_reducible refine ⟨_, .inl rfl, ?_⟩) | (with_reducible refine ⟨_, .inr (.inl rfl), ?_⟩) | (with_reducible refine ⟨_, .inr (.inr rfl), ?_⟩)
    | (with_reducible apply callq0) | ((with_reducible apply frzB); (focus exact rfl); (focus exact rfl); walk_at "put")
    | ((with_reducible apply callq1); walk_at "set")
    | ((with_reducible apply callq2); walk_at "set"; walk_at "set")
    | ((with_reducible first | apply fgt_nx | apply fgt_bk | apply fgt_ct); walk_at "fgt")
    | ((with_reducible apply brT); (focus exact rfl)) | ((with_reducible apply brF); (focus exact rfl)))
local macro_rules
  | `(tactic| walk_at "r") => `(tactic| repeat first | walk_at "w" | walk_at "x")
local macro_rules
  | `(tactic| walk_at "ri") => `(tactic| repeat first | walk_at "w" | walk_at "x" | (with_reducible refine wp_if ?_))
local macro_rules
  | `(tactic| walk_at "app") => `(tactic| ((with_reducible apply appq); (focus exact rfl); (focus ((try simp only [List.length_map, List.length_nil, List.length_cons, List.length_append]); unfold line; omega)); walk_at "set"))
local macro_rules
  | `(tactic| walk_at "mul") => `(tactic| ((refine opq rfl rfl (ev_mul ?_) ?_); (focus (apply mulT <;> omega))))
local macro_rules
  | `(tactic| walk_at "rm") => `(tactic| repeat first | walk_at "w" | walk_at "x" | walk_at "mul")
local macro_rules
  | `(tactic| walk_at "len") => `(tactic| (refine And.intro ?_ ?_; (focus (simp [line]; done))))
local macro_rules
  | `(tactic| walk_at "rl") => `(tactic| repeat first | walk_at "w" | walk_at "x" | walk_at "len")
local macro_rules
  | `(tactic| walk_at "ril") => `(tactic| repeat first | walk_at "w" | walk_at "x" | walk_at "len" | (with_reducible refine wp_if ?_))
/-! QAa: ladders, plain. -/
inductive Tr
  | leaf (p : Nat)
  | node (l r : Tr)
def metR (C : Nat → Nat → Rat) (x : Nat) (b : List (Nat × Rat)) : Rat := (b.map fun z => z.2 * C x z.1).sum
def duel (C : Nat → Nat → Rat) (a b : List (Nat × Rat)) : List (Nat × Rat) := (a.map fun z => (z.1, z.2 * metR C z.1 b)) ++ (b.map fun z => (z.1, z.2 * metR C z.1 a))
def Tr.pl : Tr → List Nat
  | .leaf p => [p]
  | .node l r => l.pl ++ r.pl
def Tr.wl (C : Nat → Nat → Rat) : Tr → List (Nat × Rat)
  | .leaf p => [(p, 1)]
  | .node l r => duel C (l.wl C) (r.wl C)
def mkT : Nat → List Nat → Tr
  | 0, ps => .leaf (ps.getD 0 0)
  | k + 1, ps => .node (mkT k (ps.take (2 ^ k))) (mkT k (ps.drop (2 ^ k)))
section
variable {C : Nat → Nat → Rat} {a b a' b' : List (Nat × Rat)} {l r l' r' t : Tr} {k : Nat} {ps : List Nat}
theorem duel_fst : (duel C a b).map (·.1) = a.map (·.1) ++ b.map (·.1) := by
  unfold duel
  rw [List.map_append, List.map_map, List.map_map]
  rfl
theorem wl_fst : ∀ t : Tr, (t.wl C).map (·.1) = t.pl
  | .leaf p => rfl
  | .node l r => by rw [Tr.wl, duel_fst, wl_fst l, wl_fst r]; rfl
theorem rat_perm : ∀ {xs ys : List Rat}, xs.Perm ys → xs.sum = ys.sum := fun h => by
  induction h with
  | nil => rfl
  | cons x _ ih => rw [List.sum_cons, List.sum_cons, ih]
  | swap x y l => simp only [List.sum_cons]; grind
  | trans _ _ h1 h2 => exact h1.trans h2
theorem met_perm (h : b.Perm b') (x : Nat) : metR C x b = metR C x b' := rat_perm (h.map _)
theorem duel_perm (h1 : a.Perm a') (h2 : b.Perm b') : (duel C a b).Perm (duel C a' b') := by
  unfold duel
  refine List.Perm.append ?_ ?_
  · rw [show (fun z : Nat × Rat => (z.1, z.2 * metR C z.1 b)) = fun z => (z.1, z.2 * metR C z.1 b') from funext fun z => by rw [met_perm h2]]
    exact h1.map _
  · rw [show (fun z : Nat × Rat => (z.1, z.2 * metR C z.1 a)) = fun z => (z.1, z.2 * metR C z.1 a') from funext fun z => by rw [met_perm h1]]
    exact h2.map _
theorem duel_swap : (duel C b a).Perm (duel C a b) := List.perm_append_comm
theorem mk_len (h : ps.length = 2 ^ (k + 1)) : (ps.take (2 ^ k)).length = 2 ^ k ∧ (ps.drop (2 ^ k)).length = 2 ^ k := by
  rw [Nat.pow_succ] at h
  rw [List.length_take, List.length_drop]
  omega
theorem mk_pl : ∀ {k : Nat} {ps : List Nat}, ps.length = 2 ^ k → (mkT k ps).pl = ps
  | 0, ps, h => by
    match ps, h with
    | [p], _ => rfl
  | k + 1, ps, h => by
    obtain ⟨h1, h2⟩ := mk_len h
    rw [mkT, Tr.pl, mk_pl h1, mk_pl h2, List.take_append_drop]
theorem mk_two {xs ys : List Nat} (h1 : xs.length = 2 ^ k) : mkT (k + 1) (xs ++ ys) = .node (mkT k xs) (mkT k ys) := by
  rw [mkT, List.take_left' h1, List.drop_left' h1]
/-- the chance of one player -/
def lk (L : List (Nat × Rat)) (p : Nat) : Rat := ((L.find? fun z => decide (z.1 = p)).map (·.2)).getD 0
theorem lk_mem {L : List (Nat × Rat)} (h : (L.map (·.1)).Nodup) {z : Nat × Rat} (hz : z ∈ L) : lk L z.1 = z.2 := by
  unfold lk
  induction L with
  | nil => cases hz
  | cons y L ih =>
    rw [List.map_cons, List.nodup_cons] at h
    rw [List.find?_cons]
    rcases List.mem_cons.mp hz with rfl | hz
    · simp
    · have : y.1 ≠ z.1 := fun e => h.1 (by rw [e]; exact List.mem_map.mpr ⟨z, hz, rfl⟩)
      rw [decide_eq_false this]
      exact ih h.2 hz
theorem lk_perm {L L' : List (Nat × Rat)} (h : (L.map (·.1)).Nodup) (hp : L'.Perm L) {p : Nat} (hm : p ∈ L.map (·.1)) : lk L' p = lk L p := by
  obtain ⟨z, hz, rfl⟩ := List.mem_map.mp hm
  rw [lk_mem h hz, lk_mem ((hp.map _).nodup_iff.mpr h) (hp.mem_iff.mpr hz)]
end
end Py
namespace Py
open PySem D
local macro_rules
  | `(tactic| walk_at "w") => `(tactic| with_reducible first
    | refine seq_nx ?_ | refine seq_rt ?_ | refine seq_bk ?_ | refine seq_ct ?_ | refine wp_seq ?_ | refine wp_asg ?_ | refine wp_next ?_ | refine wp_ret ?_ | refine wp_retN ?_ | refine wp_brk ?_ | refine wp_cont ?_ | refine wp_expr ?_ | refine wp_op ?_ | refine wp_un ?_ | refine wp_c ?_
    | refine unB ?_ | refine wp_truB ?_ | refine wp_and ?_ | refine wp_or ?_ | refine wp_not ?_ | refine wp_ifE ?_ | refine wp_tup ?_ | refine wp_lst ?_ | refine wp_lcons ?_ | refine wp_lnil ?_ | refine frzV ?_ | refine frzN ?_ | refine wp_frz ?_ | refine wp_sl ?_ | refine wp_onone ?_ | refine wp_osome ?_
    | refine wp_anil ?_ | refine wp_av ?_ | refine wp_andV ?_ | refine wp_orV ?_ | refine wp_notV ?_ | refine wp_fgtR ?_ | refine turn_nx ?_ | refine turn_rt ?_ | refine turn_bk ?_ | refine turn_ct ?_ | refine fgt_rt ?_ | refine wp_par ?_ | refine wp_chain ?_ | refine wp_seqI ?_)
local macro_rules
  | `(tactic| walk_at "put") => `(tactic| focus ((repeat apply PutR.s); first | exact PutR.z rfl | exact PutR.z (by assumption)))
local macro_rules
  | `(tactic| walk_at "set") => `(tactic| focus ((repeat apply SetR.s); first | exact SetR.o | exact SetR.r))
local macro_rules
  | `(tactic| walk_at "fgt") => `(tactic| focus (repeat first | exact FgtsR.nil | exact FgtR.k | exact FgtR.z rfl | exact FgtR.z (by assumption) | apply FgtR.s | apply FgtsR.cons))
local macro_rules
  | `(tactic| walk_at "x") => `(tactic| first
    | ((with_reducible apply wp_varV); (focus exact rfl)) | ((with_reducible apply wp_varO); (focus exact rfl)) | ((with_reducible apply wp_varR); (focus exact rfl))
    | ((with_reducible apply opq); (focus exact rfl); (focus exact rfl); (focus (first | exact ev_eqI | exact ev_neI | exact ev_ltI | exact ev_leI | exact ev_gtI | exact ev_geI | exact ev_in2 | exact ev_in2n | exact ev_in4n | exact ev_isT | exact ev_isF | exact ev_isnT | exact ev_isnF | exact ev_eqQ0 | exact ev_eqQ1 | exact ev_eqQ | exact ev_neQ | exact ev_strT | exact ev_strF n1 | exact ev_strF n2 | exact ev_strF n3 | exact ev_strF n4 | exact ev_strF n5 | exact ev_strF n6 | exact rfl)))
    | ((with_reducible apply unq); (focus exact rfl); (focus exact rfl))
    | ((with_reducible first | apply putqV | apply putqN); walk_at "put")
    | ((with_reducible apply putqB); (focus exact rfl); (focus exact rfl); walk_at "put"; walk_at "put")
    | ((with_reducible apply putq2); walk_at "put"; walk_at "put")
    | ((with_reducible apply parq); walk_at "put"; walk_at "put")
    | ((with_reducible apply wp_callR); (focus (repeat first | exact RefsR.nil | apply RefsR.v | apply RefsR.r)); (focus decide))
    | ((with_reducible apply wp_ar); (focus exact rfl))
    | ((with_reducible apply fin_rt); (focus exact rfl); (focus exact rfl))
    | ((with_reducible apply fin_nx); (focus exact rfl))
    | ((with_reducible apply wp_appendR); (focus exact rfl))
    | (with_reducible refine ⟨_, rfl, ?_⟩) | (with_reducible refine ⟨_, .inl rfl, ?_⟩) | (with_reducible refine ⟨_, .inr (.inl rfl), ?_⟩) | (with_reducible refine ⟨_, .inr (.inr rfl), ?_⟩)
    | (with_reducible apply callq0) | ((with_reducible apply frzB); (focus exact rfl); (focus exact rfl); walk_at "put")
    | ((with_reducible apply callq1); walk_at "set")
    | ((with_reducible apply callq2); walk_at "set"; walk_at "set")
    | ((with_reducible first | apply fgt_nx | apply fgt_bk | apply fgt_ct); walk_at "fgt")
    | ((with_reducible apply brT); (focus exact rfl)) | ((with_reducible apply brF); (focus exact rfl)))
local macro_rules
  | `(tactic| walk_at "r") => `(tactic| repeat first | walk_at "w" | walk_at "x")
local macro_rules
  | `(tactic| walk_at "ri") => `(tactic| repeat first | walk_at "w" | walk_at "x" | (with_reducible refine wp_if ?_))
local macro_rules
  | `(tactic| walk_at "app") => `(tactic| ((with_reducible apply appq); (focus exact rfl); (focus ((try simp only [List.length_map, List.length_nil, List.length_cons, List.length_append]); unfold line; omega)); walk_at "set"))
local macro_rules
  | `(tactic| walk_at "mul") => `(tactic| ((refine opq rfl rfl (ev_mul ?_) ?_); (focus (apply mulT <;> omega))))
local macro_rules
  | `(tactic| walk_at "rm") => `(tactic| repeat first | walk_at "w" | walk_at "x" | walk_at "mul")
local macro_rules
  | `(tactic| walk_at "len") => `(tactic| (refine And.intro ?_ ?_; (focus (simp [line]; done))))
local macro_rules
  | `(tactic| walk_at "rl") => `(tactic| repeat first | walk_at "w" | walk_at "x" | walk_at "len")
local macro_rules
  | `(tactic| walk_at "ril") => `(tactic| repeat first | walk_at "w" | walk_at "x" | walk_at "len" | (with_reducible refine wp_if ?_))
/-! QAb: the ladder's table. -/
def WpT (m : ES → Option ES) (s : ES) (Q : ES → Prop) : Prop := ∃ s', m s = some s' ∧ Q s'
section
variable {s : ES} {Q : ES → Prop} {i iP iX iY t iO iN : Nat} {a m mRow : M} {body m1 m2 loops : ES → Option ES} {ρ : Env} {vs : List Nat}
theorem wt_seq (h : WpT m1 s fun s1 => WpT m2 s1 Q) : WpT (ladQ m1 m2) s Q := by
  obtain ⟨s1, e1, s2, e2, q⟩ := h
  exact ⟨s2, by simp [ladQ, e1, e2], q⟩
theorem wt_asg (h : Wp m s.1 fun y ρ1 => FrzQ y ρ1 fun w ρ2 => ∃ ρ3, put iP (some (.val w)) ρ2 = some ρ3 ∧ Q (ρ3, s.2)) : WpT (ladP iP m) s Q := by
  obtain ⟨y, ρ1, e1, w, ρ2, e2, ρ3, e3, q⟩ := h
  exact ⟨_, by simp [ladP, e1, e2, e3], q⟩
theorem wt_set (h : Wp m s.1 fun y ρ1 => FrzQ y ρ1 fun w ρ2 => ∃ (a b : Int) (T : List (List PV)), intAt ρ2 iX = some a ∧ intAt ρ2 iY = some b ∧ set2 s.2 a b w = some T ∧ Q (ρ2, T)) : WpT (ladS iX iY m) s Q := by
  obtain ⟨y, ρ1, e1, w, ρ2, e2, a, b, T, e3, e4, e5, q⟩ := h
  exact ⟨_, by simp [ladS, e1, e2, e3, e4, e5], q⟩
theorem wt_for (P : Nat → ES → Prop) (n : Nat) (h : Wp a s.1 fun x ρ1 => look x ρ1 = some (.pv (.int n)) ∧ n ≤ line ∧ P 0 (ρ1, s.2)) (step : ∀ k, k < n → ∀ s, P k s → ∃ ρ, put i (some (.val (.int (k : Int)))) s.1 = some ρ ∧ WpT body (ρ, s.2) (P (k + 1))) (hd : ∀ s, P n s → Q s) : WpT (ladF i a body) s Q := by
  obtain ⟨x, ρ1, e1, e2, hz, h0⟩ := h
  have key : ∀ (d k : Nat) (s : ES), k + d = n → P k s → ∃ s', lop i body ((rangeL 0 n).drop k) s = some s' ∧ Q s' := by
    intro d
    induction d with
    | zero =>
      intro k s hk hp
      have : (rangeL 0 n).drop k = [] := List.drop_eq_nil_of_le (by unfold rangeL; simp; omega)
      rw [this]
      exact ⟨s, rfl, hd s (by rw [show n = k by omega]; exact hp)⟩
    | succ d ih =>
      intro k s hk hp
      have hk' : k < n := by omega
      have hl : (rangeL 0 n).length = n := by unfold rangeL; simp
      rw [List.drop_eq_getElem_cons (by omega)]
      have hx : (rangeL 0 n)[k]'(by omega) = .int (k : Int) := by unfold rangeL; simp
      rw [hx]
      obtain ⟨ρ, f1, s1, f2, f3⟩ := step k hk' s hp
      obtain ⟨s', g1, g2⟩ := ih (k + 1) s1 (by omega) f3
      exact ⟨s', by simp [lop, f1, f2, g1], g2⟩
  obtain ⟨s', g1, g2⟩ := key n 0 (ρ1, s.2) (by omega) h0
  refine ⟨s', ?_, g2⟩
  have hz' : (n : Int) ≤ line ∧ -(2 ^ 62) ≤ (n : Int) := ⟨by exact_mod_cast hz, by omega⟩
  simp only [ladF, Py.iRng1, e1, e2, Option.bind_some, intOf, if_pos hz', Int.toNat_natCast]
  exact g1
theorem wp_lad {n : Nat} {row : List PV} {QS : Fl → Env → Prop} (hg : get ρ iN = some (.val (.int (n : Int)))) (hn : n ≤ 100) (gt : get ρ t = none) (tl : t < ρ.length) (hv : ∀ i ∈ vs, get ρ i = none)
    (hr : ∀ k : Nat, k < n → mRow ((wipe ρ vs).set iO (some (.val (.int k)))) = some (.new (.lst row), (wipe ρ vs).set iO (some (.val (.int k)))))
    (h : WpT loops (ρ, List.replicate n row) fun s => QS .nx (s.1.set t (some (.own (.lst (s.2.map PySem.PyData.list)))))) : Wp (sLad t iO iN vs mRow loops) ρ QS := by
  obtain ⟨s', e1, q⟩ := h
  have hc : 0 ≤ (n : Int) ∧ (n : Int) ≤ 100 ∧ get ρ t = none ∧ t < ρ.length ∧ (∀ i ∈ vs, get ρ i = none) ∧ ∃ row, ∀ k : Nat, k < (n : Int).toNat → mRow ((wipe ρ vs).set iO (some (.val (.int k)))) = some (.new (.lst row), (wipe ρ vs).set iO (some (.val (.int k)))) :=
    ⟨by omega, by omega, gt, tl, hv, row, fun k hk => hr k (by simpa using hk)⟩
  refine ⟨.nx, _, ?_, q⟩
  unfold sLad
  rw [hg]
  dsimp only
  rw [dif_pos hc]
  have hs := hc.2.2.2.2.2.choose_spec
  have er : List.replicate (n : Int).toNat hc.2.2.2.2.2.choose = List.replicate n row := by
    generalize hc.2.2.2.2.2.choose = rw' at hs
    clear hc
    rw [Int.toNat_natCast]
    cases n with
    | zero => rfl
    | succ n =>
      have h1 := hs 0 (by simp)
      rw [hr 0 (by omega)] at h1
      congr 1
      simp only [Option.some.injEq, Prod.mk.injEq, R.new.injEq, Ob.lst.injEq, and_true] at h1
      exact h1.symm
  rw [er, e1]
  rfl
end
def tabL (n : Nat) (F : Nat → Nat → Rat) : List (List PV) := (List.range n).map fun p => rowP n (F p)
def ladV (n : Nat) (F : Nat → Nat → Rat) : List PV := (List.range n).map fun p => .tuple (rowP n (F p))
def upd2 (F : Nat → Nat → Rat) (p q : Nat) (x : Rat) : Nat → Nat → Rat := fun a b => if a = p ∧ b = q then x else F a b
theorem set2_tab {n p q : Nat} {F : Nat → Nat → Rat} {x : Rat} (hp : p < n) (hq : q < n) : set2 (tabL n F) (p : Int) (q : Int) (rq x) = some (tabL n (upd2 F p q x)) := by
  have hl : (tabL n F).length = n := by simp [tabL]
  have h1 : ∀ (m : Nat) (k : Nat), k < m → ixN m (k : Int) = some k := fun m k h => by
    unfold ixN
    rw [if_pos (by omega), if_pos (by omega)]
    simp
  unfold set2
  rw [hl, h1 n p hp]
  have h2 : (tabL n F)[p]? = some (rowP n (F p)) := by simp [tabL, hp]
  simp only [Option.bind_some, h2, rowP_len, h1 n q hq, Option.map_some]
  congr 1
  refine List.ext_getElem (by simp [tabL]) fun i i1 i2 => ?_
  have hi : i < n := by simpa [tabL] using i2
  rw [List.getElem_set]
  by_cases c : p = i
  · subst c
    rw [if_pos rfl]
    simp only [tabL, List.getElem_map, List.getElem_range]
    refine List.ext_getElem (by simp [rowP_len]) fun j j1 j2 => ?_
    rw [List.getElem_set]
    by_cases d : q = j
    · subst d; rw [if_pos rfl]; simp [rowP, upd2]
    · rw [if_neg d]
      have : ¬ j = q := fun z => d z.symm
      simp [rowP, upd2, this]
  · rw [if_neg c]
    have : ¬ i = p := fun z => c z.symm
    simp only [tabL, List.getElem_map, List.getElem_range]
    congr 1
    funext j
    simp [upd2, this]
/-- chances of players against each other -/
structure Lad (n b : Nat) (C : Nat → Nat → Rat) : Prop where
  bits : ∀ p, p < n → ∀ q, q < n → Bq b (C p q)
  two : ∀ p, p < n → ∀ q, q < n → p ≠ q → C p q + C q p = 1
  self : ∀ p, p < n → C p p = 0
  nn : ∀ p, p < n → ∀ q, q < n → 0 ≤ C p q ∧ C p q ≤ 1
section
variable {Q : R → List Ob → Prop} {n b : Nat} {ns ds : List Int}
theorem of_ladder {d : Nat} (hn : n ≤ 100) (hd : 1 ≤ d) (hb : 1 ≤ b) (hdb : d < 2 ^ b) (k : ∀ C ds', Lad n b C → Q (.val (.tuple (ladV n C))) [intsO ds']) : Ret d_law_ladder [.ref (intsO ds), .val (.int (n : Int)), .val (.int (d : Int))] Q := by
  have hln : (line : Nat) = 16777216 := rfl
  refine ret_mkR (by repeat constructor) ?_
  unfold b_law_ladder
  walk_at "rl"
  refine wp_lad (row := rowP n fun _ => 0) (n := n) rfl hn rfl (by simp) (by simp [get]) ?_ ?_
  · intro k hk
    have hw : Wp e2_law_ladder ((wipe [some (.ref (intsO ds)), some (.val (.int (n : Int))), some (.val (.int (d : Int))), none, none, none, none, none] [4]).set 4 (some (.val (.int (k : Int))))) fun r ρ => r = .new (.lst (rowP n fun _ => 0)) ∧ ρ = (wipe [some (.ref (intsO ds)), some (.val (.int (n : Int))), some (.val (.int (d : Int))), none, none, none, none, none] [4]).set 4 (some (.val (.int (k : Int)))) := by
      dsimp only [wipe, set_s, set_z]
      unfold e2_law_ladder
      refine wp_lcN (ρ1 := [some (.ref (intsO ds)), some (.val (.int (n : Int))), some (.val (.int (d : Int))), none, some (.val (.int (k : Int))), none, none, none]) n (fun _ => rq 0) (by simp) (by omega) ?_ ?_ ?_
      · walk_at "rl"
        exact ⟨rfl, rfl⟩
      · intro j hj
        dsimp only [set_s, set_z]
        unfold e1_law_ladder
        walk_at "rl"
        exact ⟨rfl, rfl⟩
      exact ⟨rfl, rfl⟩
    obtain ⟨r, ρ, e, rfl, rfl⟩ := hw
    exact e
  have e0 : List.replicate n (rowP n fun _ => (0 : Rat)) = tabL n fun _ _ => 0 := by
    unfold tabL
    exact List.ext_getElem (by simp) fun i _ _ => by simp
  rw [e0]
  unfold x3_law_ladder
  refine wt_for (fun p s => ∃ (F : Nat → Nat → Rat) (ds : List Int) (u5 u6 u4 : Option Sl), (isRef u5 = false ∧ isRef u6 = false ∧ isRef u4 = false) ∧ (∀ p', p' < n → ∀ q, q < n → Bq b (F p' q) ∧ 0 ≤ F p' q ∧ F p' q ≤ 1) ∧ (∀ p', F p' p' = 0) ∧ (∀ p', p' < p → ∀ q, q < p' → F p' q + F q p' = 1) ∧ s = ([some (.ref (intsO ds)), some (.val (.int (n : Int))), some (.val (.int (d : Int))), none, u4, u5, u6, none], tabL n F)) n ?_ ?_ ?_
  · walk_at "rl"
    exact ⟨rfl, by omega, fun _ _ => 0, ds, none, none, none, ⟨rfl, rfl, rfl⟩, fun _ _ _ _ => ⟨bq_0.mono hb, Rat.le_refl, by show (0 : Rat) ≤ 1; decide⟩, fun _ => rfl, fun p' hp => by omega, rfl⟩
  · rintro p hp _ ⟨F, ds, u5, u6, u4, ⟨v5, v6, v4⟩, h1, h2, h3, rfl⟩
    refine ⟨[some (.ref (intsO ds)), some (.val (.int (n : Int))), some (.val (.int (d : Int))), none, some (.val (.int (p : Int))), u5, u6, none], by unfold Py.put; simp [get, v4], ?_⟩
    refine wt_for (fun q s => ∃ (F : Nat → Nat → Rat) (ds : List Int) (u5 u6 : Option Sl), (isRef u5 = false ∧ isRef u6 = false) ∧ (∀ p', p' < n → ∀ q, q < n → Bq b (F p' q) ∧ 0 ≤ F p' q ∧ F p' q ≤ 1) ∧ (∀ p', F p' p' = 0) ∧ (∀ p', p' < p → ∀ q, q < p' → F p' q + F q p' = 1) ∧ (∀ q', q' < q → F p q' + F q' p = 1) ∧ s = ([some (.ref (intsO ds)), some (.val (.int (n : Int))), some (.val (.int (d : Int))), none, some (.val (.int (p : Int))), u5, u6, none], tabL n F)) p ?_ ?_ ?_
    · walk_at "rl"
      exact ⟨rfl, by omega, F, ds, u5, u6, ⟨v5, v6⟩, h1, h2, h3, fun q hq => by omega, rfl⟩
    · clear h1 h2 h3 v5 v6 v4 u4 u5 u6 F
      rintro q hq _ ⟨F, ds, u5, u6, ⟨v5, v6⟩, h1, h2, h3, h4, rfl⟩
      refine ⟨[some (.ref (intsO ds)), some (.val (.int (n : Int))), some (.val (.int (d : Int))), none, some (.val (.int (p : Int))), some (.val (.int (q : Int))), u6, none], by unfold Py.put; simp [get, v5], ?_⟩
      refine wt_seq (wt_asg ?_)
      walk_at "rl"
      refine of_take (by omega) fun x1 ds hx1 hx2 => ?_
      walk_at "rl"
      refine of_take (by omega) fun x2 ds hx3 hx4 => ?_
      walk_at "rl"
      refine of_take (by decide) fun i ds hi1 hi2 => ?_
      walk_at "rl"
      obtain ⟨x, hx, hat⟩ := pickI (xs := [x1, x2, (d : Int).fdiv 2, d, 0]) hi1 (by simpa using hi2)
      have hd2 : 0 ≤ (d : Int).fdiv 2 ∧ (d : Int).fdiv 2 ≤ d := by
        rw [Int.fdiv_eq_ediv_of_nonneg _ (by decide)]
        omega
      have hxb : 0 ≤ x ∧ x ≤ d := by
        simp only [List.mem_cons, List.not_mem_nil, or_false] at hx
        omega
      refine opq rfl rfl (ev_ix (.inr (.inr rfl)) hat) ?_
      walk_at "rl"
      have hdR : ((d : Int) : Rat) ≠ 0 := ic_ne (by omega)
      have hd0 : (0 : Rat) < ((d : Int) : Rat) := by exact_mod_cast (show (0 : Int) < (d : Int) by omega)
      obtain ⟨X, hX⟩ : ∃ X : Rat, X = (x : Rat) / ((d : Int) : Rat) := ⟨_, rfl⟩
      have hX1 : fr (rat x (d : Int)) = rq X := by rw [hX]; exact fr_rq' (low_rat (by omega)) (qv_rat (by omega))
      have hX2 : fr (rat ((d : Int) - x) (d : Int)) = rq (1 - X) := by
        refine fr_rq' (low_rat (by omega)) ?_
        rw [qv_rat (by omega), Rat.intCast_sub, hX]
        grind
      have hXb : Bq b X := by
        rw [hX]
        exact bq_of (n := x) (d := d) (by omega) (by grind) (by omega) (by omega)
      have hYb : Bq b (1 - X) := by
        rw [hX]
        exact bq_of (n := d - x) (d := d) (by omega) (by rw [Rat.intCast_sub]; grind) (by omega) (by omega)
      have hX0 : 0 ≤ X ∧ X ≤ 1 := by
        have e1 : X * ((d : Int) : Rat) = (x : Rat) := by rw [hX]; grind
        have f1 : (0 : Rat) ≤ (x : Rat) := by exact_mod_cast hxb.1
        have f2 : (x : Rat) ≤ ((d : Int) : Rat) := Rat.intCast_le_intCast.mpr hxb.2
        constructor
        · refine Rat.not_lt.mp fun z => ?_
          have := Rat.mul_pos (show 0 < -X by grind) hd0
          grind
        · refine Rat.not_lt.mp fun z => ?_
          have := Rat.mul_pos (show 0 < X - 1 by grind) hd0
          grind
      refine ⟨[some (.ref (intsO ds)), some (.val (.int (n : Int))), some (.val (.int (d : Int))), none, some (.val (.int (p : Int))), some (.val (.int (q : Int))), some (.val (.int x)), none], by unfold Py.put; simp [get, v6], ?_⟩
      refine wt_seq (wt_set ?_)
      walk_at "rl"
      refine of_lfraction (by omega) ?_
      rw [hX1]
      walk_at "rl"
      refine ⟨_, _, _, rfl, rfl, set2_tab hp (by omega), ?_⟩
      refine wt_set ?_
      walk_at "rl"
      refine of_lfraction (by omega) ?_
      rw [hX2]
      walk_at "rl"
      refine ⟨_, _, _, rfl, rfl, set2_tab (by omega) hp, ?_⟩
      refine ⟨_, ds, _, _, ⟨rfl, rfl⟩, fun p' hp' q' hq' => ?_, fun p' => ?_, fun p' hp' q' hq' => ?_, fun q' hq' => ?_, rfl⟩
      · unfold upd2
        split
        · exact ⟨hYb, by grind, by grind⟩
        · split
          · exact ⟨hXb, hX0.1, hX0.2⟩
          · exact h1 p' hp' q' hq'
      · unfold upd2
        rw [if_neg (by omega), if_neg (by omega)]
        exact h2 p'
      · unfold upd2
        rw [if_neg (by omega), if_neg (by omega), if_neg (by omega), if_neg (by omega)]
        exact h3 p' hp' q' hq'
      · unfold upd2
        by_cases c : q' = q
        · subst c
          rw [if_neg (by omega), if_pos ⟨rfl, rfl⟩, if_pos ⟨rfl, rfl⟩]
          grind
        · rw [if_neg (by omega), if_neg (by omega), if_neg (by omega), if_neg (by omega)]
          exact h4 q' (by omega)
    · rintro _ ⟨F, ds, u5, u6, ⟨v5, v6⟩, h1, h2, h3, h4, rfl⟩
      exact ⟨F, ds, u5, u6, _, ⟨v5, v6, rfl⟩, h1, h2, fun p' hp' q hq => by
        by_cases c : p' = p
        · subst c; exact h4 q hq
        · exact h3 p' (by omega) q hq, rfl⟩
  · rintro _ ⟨F, ds, u5, u6, u4, hu, h1, h2, h3, rfl⟩
    dsimp only [set_s, set_z]
    walk_at "rl"
    refine wp_lcS (ρ1 := [some (.ref (intsO ds)), some (.val (.int (n : Int))), some (.val (.int (d : Int))), some (.val (.list ((tabL n F).map PySem.PyData.list))), u4, u5, u6, none]) ((tabL n F).map PySem.PyData.list) (fun p => .tuple (rowP n (F p))) (by simp) (by simp [tabL]; omega) ?_ ?_ ?_
    · walk_at "rl"
      first | rfl | exact ⟨.inl rfl, rfl⟩
    · intro p hp
      have e : ((tabL n F).map PySem.PyData.list)[p] = .list (rowP n (F p)) := by simp [tabL]
      rw [e]
      dsimp only [set_s, set_z]
      unfold e4_law_ladder
      walk_at "rl"
      first | rfl | exact ⟨rfl, rfl⟩
    have e3 : ((List.range ((tabL n F).map PySem.PyData.list).length).map fun p => PyData.tuple (rowP n (F p))) = ladV n F := by
      rw [List.length_map]
      unfold ladV
      simp [tabL]
    rw [e3]
    walk_at "rl"
    refine k F ds ⟨fun p hp q hq => (h1 p hp q hq).1, fun p hp q hq hpq => ?_, fun p _ => h2 p, fun p hp q hq => (h1 p hp q hq).2⟩
    rcases Nat.lt_or_gt_of_ne hpq with c | c
    · have := h3 q hq p c
      grind
    · exact h3 p hp q c
end
end Py
namespace Py
open PySem D
local macro_rules
  | `(tactic| walk_at "w") => `(tactic| with_reducible first
    | refine seq_nx ?_ | refine seq_rt ?_ | refine seq_bk ?_ | refine seq_ct ?_ | refine wp_seq ?_ | refine wp_asg ?_ | refine wp_next ?_ | refine wp_ret ?_ | refine wp_retN ?_ | refine wp_brk ?_ | refine wp_cont ?_ | refine wp_expr ?_ | refine wp_op ?_ | refine wp_un ?_ | refine wp_c ?_
    | refine unB ?_ | refine wp_truB ?_ | refine wp_and ?_ | refine wp_or ?_ | refine wp_not ?_ | refine wp_ifE ?_ | refine wp_tup ?_ | refine wp_lst ?_ | refine wp_lcons ?_ | refine wp_lnil ?_ | refine frzV ?_ | refine frzN ?_ | refine wp_frz ?_ | refine wp_sl ?_ | refine wp_onone ?_ | refine wp_osome ?_
    | refine wp_anil ?_ | refine wp_av ?_ | refine wp_andV ?_ | refine wp_orV ?_ | refine wp_notV ?_ | refine wp_fgtR ?_ | refine turn_nx ?_ | refine turn_rt ?_ | refine turn_bk ?_ | refine turn_ct ?_ | refine fgt_rt ?_ | refine wp_par ?_ | refine wp_chain ?_ | refine wp_seqI ?_)
local macro_rules
  | `(tactic| walk_at "put") => `(tactic| focus ((repeat apply PutR.s); first | exact PutR.z rfl | exact PutR.z (by assumption)))
local macro_rules
  | `(tactic| walk_at "set") => `(tactic| focus ((repeat apply SetR.s); first | exact SetR.o | exact SetR.r))
local macro_rules
  | `(tactic| walk_at "fgt") => `(tactic| focus (repeat first | exact FgtsR.nil | exact FgtR.k | exact FgtR.z rfl | exact FgtR.z (by assumption) | apply FgtR.s | apply FgtsR.cons))
local macro_rules
  | `(tactic| walk_at "x") => `(tactic| first
    | ((with_reducible apply wp_varV); (focus exact rfl)) | ((with_reducible apply wp_varO); (focus exact rfl)) | ((with_reducible apply wp_varR); (focus exact rfl))
    | ((with_reducible apply opq); (focus exact rfl); (focus exact rfl); (focus (first | exact ev_eqI | exact ev_neI | exact ev_ltI | exact ev_leI | exact ev_gtI | exact ev_geI | exact ev_in2 | exact ev_in2n | exact ev_in4n | exact ev_isT | exact ev_isF | exact ev_isnT | exact ev_isnF | exact ev_eqQ0 | exact ev_eqQ1 | exact ev_eqQ | exact ev_neQ | exact ev_strT | exact ev_strF n1 | exact ev_strF n2 | exact ev_strF n3 | exact ev_strF n4 | exact ev_strF n5 | exact ev_strF n6 | exact rfl)))
    | ((with_reducible apply unq); (focus exact rfl); (focus exact rfl))
    | ((with_reducible first | apply putqV | apply putqN); walk_at "put")
    | ((with_reducible apply putqB); (focus exact rfl); (focus exact rfl); walk_at "put"; walk_at "put")
    | ((with_reducible apply putq2); walk_at "put"; walk_at "put")
    | ((with_reducible apply parq); walk_at "put"; walk_at "put")
    | ((with_reducible apply wp_callR); (focus (repeat first | exact RefsR.nil | apply RefsR.v | apply RefsR.r)); (focus decide))
    | ((with_reducible apply wp_ar); (focus exact rfl))
    | ((with_reducible apply fin_rt); (focus exact rfl); (focus exact rfl))
    | ((with_reducible apply fin_nx); (focus exact rfl))
    | ((with_reducible apply wp_appendR); (focus exact rfl))
    | (with_reducible refine ⟨_, rfl, ?_⟩) | (with_reducible refine ⟨_, .inl rfl, ?_⟩) | (with_reducible refine ⟨_, .inr (.inl rfl), ?_⟩) | (with_reducible refine ⟨_, .inr (.inr rfl), ?_⟩)
    | (with_reducible apply callq0) | ((with_reducible apply frzB); (focus exact rfl); (focus exact rfl); walk_at "put")
    | ((with_reducible apply callq1); walk_at "set")
    | ((with_reducible apply callq2); walk_at "set"; walk_at "set")
    | ((with_reducible first | apply fgt_nx | apply fgt_bk | apply fgt_ct); walk_at "fgt")
    | ((with_reducible apply brT); (focus exact rfl)) | ((with_reducible apply brF); (focus exact rfl)))
local macro_rules
  | `(tactic| walk_at "r") => `(tactic| repeat first | walk_at "w" | walk_at "x")
local macro_rules
  | `(tactic| walk_at "ri") => `(tactic| repeat first | walk_at "w" | walk_at "x" | (with_reducible refine wp_if ?_))
local macro_rules
  | `(tactic| walk_at "app") => `(tactic| ((with_reducible apply appq); (focus exact rfl); (focus ((try simp only [List.length_map, List.length_nil, List.length_cons, List.length_append]); unfold line; omega)); walk_at "set"))
local macro_rules
  | `(tactic| walk_at "mul") => `(tactic| ((refine opq rfl rfl (ev_mul ?_) ?_); (focus (apply mulT <;> omega))))
local macro_rules
  | `(tactic| walk_at "rm") => `(tactic| repeat first | walk_at "w" | walk_at "x" | walk_at "mul")
local macro_rules
  | `(tactic| walk_at "len") => `(tactic| (refine And.intro ?_ ?_; (focus (simp [line]; done))))
local macro_rules
  | `(tactic| walk_at "rl") => `(tactic| repeat first | walk_at "w" | walk_at "x" | walk_at "len")
local macro_rules
  | `(tactic| walk_at "ril") => `(tactic| repeat first | walk_at "w" | walk_at "x" | walk_at "len" | (with_reducible refine wp_if ?_))
/-! QAc: orders, and the winners. -/
abbrev pw (z : Nat × Rat) : PV := .tuple [natI z.1, rq z.2]
section
variable {Q : R → List Ob → Prop} {n : Nat} {C : Nat → Nat → Rat} {ps : List Nat} {ns ds : List Int}
def metT (C : Nat → Nat → Rat) (x : Nat) (b : List (Nat × Rat)) (i : Nat) : Rat := metR C x (b.take i)
theorem met_succ {C : Nat → Nat → Rat} {x i : Nat} {b : List (Nat × Rat)} (h : i < b.length) : metT C x b (i + 1) = metT C x b i + b[i].2 * C x b[i].1 := by
  unfold metT metR
  rw [List.take_succ_eq_append_getElem h, List.map_append, List.sum_append]
  simp
  grind
theorem met_bits {n x B : Nat} {C : Nat → Nat → Rat} {b : List (Nat × Rat)} (hC : Lad n 97 C) (hx : x < n) (hb : ∀ z ∈ b, z.1 < n ∧ Bq B z.2) : ∀ i, i ≤ b.length → Bq (i * (B + 98) + 1) (metT C x b i)
  | 0, _ => by
    have : metT C x b 0 = 0 := rfl
    rw [this]
    exact bq_0.mono (by omega)
  | i + 1, hi => by
    have h1 := met_bits hC hx hb i (by omega)
    obtain ⟨h2, h3⟩ := hb _ (List.getElem_mem (show i < b.length by omega))
    rw [met_succ (by omega)]
    refine (bq_add h1 (bq_mul h3 (hC.bits x hx _ h2))).mono ?_
    rw [Nat.add_mul]
    omega
theorem side_loop {n B : Nat} {C : Nat → Nat → Rat} {self : Den} {v1 v2 v3 : PV} {A D : List (Nat × Rat)} {L : List PV} {QS : Fl → Env → Prop} (hC : Lad n 97 C) (hA : ∀ z ∈ A, z.1 < n ∧ Bq B z.2) (hD : ∀ z ∈ D, z.1 < n ∧ Bq B z.2) (hAl : A.length ≤ 4) (hDl : D.length ≤ 4) (hB : B ≤ 100000) (hL : L.length ≤ 1000)
    (q : QS .nx [some (.val (.tuple (ladV n C))), some (.val v1), some (.val v2), some (.val v3), some (.own (.lst (L ++ (A.map fun z => (z.1, z.2 * metR C z.1 D)).map pw))), some (.val (.list (A.map pw))), some (.val (.list (D.map pw))), none, none, none, none, none]) :
    Wp (sFor (iSeq (mFrz (mVar 5))) (gTup [7, 8]) (l2_winners self)) [some (.val (.tuple (ladV n C))), some (.val v1), some (.val v2), some (.val v3), some (.own (.lst L)), some (.val (.list (A.map pw))), some (.val (.list (D.map pw))), none, none, none, none, none] QS := by
  have hln : (line : Nat) = 16777216 := rfl
  refine wp_forL (fun i ρ => ρ = [some (.val (.tuple (ladV n C))), some (.val v1), some (.val v2), some (.val v3), some (.own (.lst (L ++ ((A.take i).map fun z => (z.1, z.2 * metR C z.1 D)).map pw))), some (.val (.list (A.map pw))), some (.val (.list (D.map pw))), none, none, none, none, none]) (A.map pw) ?_ ?_ ?_
  · walk_at "rl"
    simp
  · rintro i hi _ rfl
    rw [List.length_map] at hi
    have e : (A.map pw)[i]'(by rw [List.length_map]; exact hi) = pw A[i] := by simp
    obtain ⟨ha1, ha2⟩ := hA _ (List.getElem_mem hi)
    rw [e, List.take_succ_eq_append_getElem hi]
    generalize A[i] = z at *
    unfold l2_winners
    walk_at "rl"
    refine wp_forL (fun j ρ => ρ = [some (.val (.tuple (ladV n C))), some (.val v1), some (.val v2), some (.val v3), some (.own (.lst (L ++ ((A.take i).map fun z => (z.1, z.2 * metR C z.1 D)).map pw))), some (.val (.list (A.map pw))), some (.val (.list (D.map pw))), some (.val (natI z.1)), some (.val (rq z.2)), some (.val (rq (metT C z.1 D j))), none, none]) (D.map pw) ?_ ?_ ?_
    · walk_at "rl"
      rfl
    · rintro j hj _ rfl
      rw [List.length_map] at hj
      have e : (D.map pw)[j]'(by rw [List.length_map]; exact hj) = pw D[j] := by simp
      obtain ⟨hd1, hd2⟩ := hD _ (List.getElem_mem hj)
      have hmb := met_bits hC ha1 hD j (by omega)
      rw [e, met_succ hj]
      generalize D[j] = y at *
      unfold l1_winners
      walk_at "rl"
      refine opq rfl rfl (ev_ix (a := (z.1 : Int)) (.inl rfl) (atI_nat (v := .tuple (rowP n (C z.1))) (by simp [ladV, ha1]))) ?_
      walk_at "rl"
      refine opq rfl rfl (ev_ix (a := (y.1 : Int)) (.inl rfl) (atI_nat (rowP_at hd1))) ?_
      walk_at "rl"
      have h5 := Nat.mul_le_mul (show j ≤ 4 by omega) (show B + 98 ≤ 100098 by omega)
      refine of_timesQ hd2 (hC.bits _ ha1 _ hd1) (by omega) ?_
      walk_at "rl"
      refine of_plusQ hmb (bq_mul hd2 (hC.bits _ ha1 _ hd1)) (by omega) ?_
      walk_at "rl"
      rfl
    · rintro _ rfl
      walk_at "rl"
      have hmb := met_bits hC ha1 hD D.length (Nat.le_refl _)
      have hme : metT C z.1 D D.length = metR C z.1 D := by unfold metT; rw [List.take_length]
      rw [hme] at hmb
      rw [List.length_map, hme]
      have h5 := Nat.mul_le_mul hDl (show B + 98 ≤ 100098 by omega)
      refine of_timesQ ha2 hmb (by omega) ?_
      walk_at "rl"
      apply appq (xs := L ++ ((A.take i).map fun z => (z.1, z.2 * metR C z.1 D)).map pw) rfl (by simp; omega)
      walk_at "set"
      walk_at "rl"
      rw [List.append_assoc, List.map_append, List.map_append]
      rfl
  · rintro _ rfl
    rw [List.length_map, List.take_length]
    exact q
theorem cutA {xs : List PV} {a : Nat} (h : a ≤ xs.length) : cut xs none (some (a : Int)) = xs.take a := by
  unfold cut
  simp only [sIx, if_neg (show ¬ ((a : Int) < 0) by omega), Int.toNat_natCast, List.drop_zero, Nat.sub_zero]
  rw [Nat.min_eq_left h]
theorem cutB {xs : List PV} {a : Nat} (h : a ≤ xs.length) : cut xs (some (a : Int)) none = xs.drop a := by
  unfold cut
  simp only [sIx, if_neg (show ¬ ((a : Int) < 0) by omega), Int.toNat_natCast]
  rw [Nat.min_eq_left h, List.take_of_length_le (by rw [List.length_drop]; exact Nat.le_refl _)]
def bbW : Nat → Nat
  | 0 => 1
  | k + 1 => bbW k + (2 ^ k * (bbW k + 98) + 1)
theorem of_winners (hC : Lad n 97 C) : ∀ (k m : Nat) (ps : List Nat) {Q : R → List Ob → Prop}, k ≤ 3 → ps.length = 2 ^ k → (∀ p ∈ ps, p < n) → ((∀ z ∈ (mkT k ps).wl C, Bq (bbW k) z.2) → Q (.new (.lst (((mkT k ps).wl C).map pw))) []) → Ret (d_winners (k + 1 + m)) [.val (.tuple (ladV n C)), .val (.tuple (ps.map natI))] Q
  | 0, m, ps, Q, hk, hl, hp, q => by
    have hln : (line : Nat) = 16777216 := rfl
    rw [show 0 + 1 + m = m + 1 by omega]
    match ps, hl with
    | [p], _ =>
      show Ret (mkDen 12 (b_winners (d_winners m))) _ Q
      refine ret_mkR (by repeat constructor) ?_
      unfold b_winners
      walk_at "ril"
      refine q fun z hz => ?_
      rw [List.mem_singleton.mp hz]
      exact bq_1
  | k + 1, m, ps, Q, hk, hl, hp, q => by
    have hln : (line : Nat) = 16777216 := rfl
    obtain ⟨h1, h2⟩ := mk_len hl
    have hp2 : 2 ^ (k + 1) = 2 ^ k + 2 ^ k := by rw [Nat.pow_succ]; omega
    have hp8 : 2 ^ k ≤ 4 := Nat.pow_le_pow_right (n := 2) (by decide) (show k ≤ 2 by omega)
    have hp0 : 0 < 2 ^ k := Nat.two_pow_pos k
    rw [show k + 1 + 1 + m = (k + 1 + m) + 1 by omega]
    show Ret (mkDen 12 (b_winners (d_winners (k + 1 + m)))) _ Q
    refine ret_mkR (by repeat constructor) ?_
    unfold b_winners
    walk_at "ril"
    rw [List.length_map, hl, decide_eq_false (by omega)]
    refine ⟨fun z => Bool.noConfusion z, fun _ => ?_⟩
    walk_at "ril"
    rw [List.length_map, hl, show ((2 ^ (k + 1) : Nat) : Int).fdiv 2 = ((2 ^ k : Nat) : Int) by rw [Int.fdiv_eq_ediv_of_nonneg _ (by decide)]; omega]
    walk_at "ril"
    have hwf : ∀ {qs : List Nat}, qs.length = 2 ^ k → ((mkT k qs).wl C).length = 2 ^ k ∧ ∀ z ∈ (mkT k qs).wl C, z.1 ∈ qs := fun {qs} h => by
      have e := wl_fst (C := C) (mkT k qs)
      rw [mk_pl h] at e
      refine ⟨by rw [← h, ← congrArg List.length e, List.length_map], fun z hz => ?_⟩
      rw [← e]
      exact List.mem_map.mpr ⟨z, hz, rfl⟩
    obtain ⟨l1, m1⟩ := hwf h1
    obtain ⟨l2, m2⟩ := hwf h2
    have hbk : bbW k ≤ 1000 := by
      have : ∀ k, k ≤ 2 → bbW k ≤ 1000 := by decide
      exact this k (by omega)
    rw [cutA (by rw [List.length_map]; omega), ← List.map_take]
    refine of_winners hC k m (ps.take (2 ^ k)) (by omega) h1 (fun p hp' => hp p (List.mem_of_mem_take hp')) fun hb1 => ?_
    walk_at "rl"
    rw [cutB (by rw [List.length_map]; omega), ← List.map_drop]
    refine of_winners hC k m (ps.drop (2 ^ k)) (by omega) h2 (fun p hp' => hp p (List.mem_of_mem_drop hp')) fun hb2 => ?_
    walk_at "rl"
    have hA : ∀ z ∈ (mkT k (ps.take (2 ^ k))).wl C, z.1 < n ∧ Bq (bbW k) z.2 := fun z hz => ⟨hp _ (List.mem_of_mem_take (m1 z hz)), hb1 z hz⟩
    have hD : ∀ z ∈ (mkT k (ps.drop (2 ^ k))).wl C, z.1 < n ∧ Bq (bbW k) z.2 := fun z hz => ⟨hp _ (List.mem_of_mem_drop (m2 z hz)), hb2 z hz⟩
    have hduel : (mkT (k + 1) ps).wl C = duel C ((mkT k (ps.take (2 ^ k))).wl C) ((mkT k (ps.drop (2 ^ k))).wl C) := rfl
    rw [hduel] at q
    generalize (mkT k (ps.take (2 ^ k))).wl C = A at *
    generalize (mkT k (ps.drop (2 ^ k))).wl C = D at *
    refine wp_forL (fun i ρ => ∃ L : List PV, (i = 0 → L = []) ∧ (i = 1 → L = (A.map fun z => (z.1, z.2 * metR C z.1 D)).map pw) ∧ (i = 2 → L = (duel C A D).map pw) ∧ ρ = [some (.val (.tuple (ladV n C))), some (.val (.tuple (ps.map natI))), some (.val (.int ((2 ^ k : Nat) : Int))), some (.val (.tuple [.list (A.map pw), .list (D.map pw)])), some (.own (.lst L)), none, none, none, none, none, none, none]) [.tuple [.list (A.map pw), .list (D.map pw)], .tuple [.list (D.map pw), .list (A.map pw)]] ?_ ?_ ?_
    · walk_at "rl"
      exact ⟨[], fun _ => rfl, fun z => by omega, fun z => by omega, rfl⟩
    · rintro i hi _ ⟨L, g0, g1, g2, rfl⟩
      unfold l3_winners
      have hi2 : i < 2 := hi
      obtain rfl | rfl : i = 0 ∨ i = 1 := by omega
      · obtain rfl := g0 rfl
        dsimp only [List.getElem_cons_zero]
        walk_at "rl"
        refine side_loop hC hA hD (by omega) (by omega) (by omega) (by simp) ?_
        walk_at "rl"
        exact ⟨_, fun z => by omega, fun _ => by rw [List.nil_append], fun z => by omega, rfl⟩
      · obtain rfl := g1 rfl
        dsimp only [List.getElem_cons_succ, List.getElem_cons_zero]
        walk_at "rl"
        refine side_loop hC hD hA (by omega) (by omega) (by omega) (by simp; omega) ?_
        walk_at "rl"
        exact ⟨_, fun z => by omega, fun z => by omega, fun _ => by unfold duel; rw [List.map_append], rfl⟩
    · rintro _ ⟨L, g0, g1, g2, rfl⟩
      obtain rfl := g2 rfl
      walk_at "rl"
      refine q fun z hz => ?_
      have key : ∀ {A D : List (Nat × Rat)} {z : Nat × Rat}, (∀ z ∈ A, z.1 < n ∧ Bq (bbW k) z.2) → (∀ z ∈ D, z.1 < n ∧ Bq (bbW k) z.2) → D.length = 2 ^ k → z ∈ (A.map fun z => (z.1, z.2 * metR C z.1 D)) → Bq (bbW (k + 1)) z.2 := fun {A D z} hA hD hl hz => by
        obtain ⟨y, hy, rfl⟩ := List.mem_map.mp hz
        obtain ⟨y1, y2⟩ := hA y hy
        have hmb := met_bits hC y1 hD D.length (Nat.le_refl _)
        have hme : metT C y.1 D D.length = metR C y.1 D := by unfold metT; rw [List.take_length]
        rw [hme, hl] at hmb
        exact bq_mul y2 hmb
      unfold duel at hz
      rcases List.mem_append.mp hz with hz | hz
      · exact key hA hD l2 hz
      · exact key hD hA l1 hz
end
end Py
namespace Py
open PySem D
local macro_rules
  | `(tactic| walk_at "w") => `(tactic| with_reducible first
    | refine seq_nx ?_ | refine seq_rt ?_ | refine seq_bk ?_ | refine seq_ct ?_ | refine wp_seq ?_ | refine wp_asg ?_ | refine wp_next ?_ | refine wp_ret ?_ | refine wp_retN ?_ | refine wp_brk ?_ | refine wp_cont ?_ | refine wp_expr ?_ | refine wp_op ?_ | refine wp_un ?_ | refine wp_c ?_
    | refine unB ?_ | refine wp_truB ?_ | refine wp_and ?_ | refine wp_or ?_ | refine wp_not ?_ | refine wp_ifE ?_ | refine wp_tup ?_ | refine wp_lst ?_ | refine wp_lcons ?_ | refine wp_lnil ?_ | refine frzV ?_ | refine frzN ?_ | refine wp_frz ?_ | refine wp_sl ?_ | refine wp_onone ?_ | refine wp_osome ?_
    | refine wp_anil ?_ | refine wp_av ?_ | refine wp_andV ?_ | refine wp_orV ?_ | refine wp_notV ?_ | refine wp_fgtR ?_ | refine turn_nx ?_ | refine turn_rt ?_ | refine turn_bk ?_ | refine turn_ct ?_ | refine fgt_rt ?_ | refine wp_par ?_ | refine wp_chain ?_ | refine wp_seqI ?_)
local macro_rules
  | `(tactic| walk_at "put") => `(tactic| focus ((repeat apply PutR.s); first | exact PutR.z rfl | exact PutR.z (by assumption)))
local macro_rules
  | `(tactic| walk_at "set") => `(tactic| focus ((repeat apply SetR.s); first | exact SetR.o | exact SetR.r))
local macro_rules
  | `(tactic| walk_at "fgt") => `(tactic| focus (repeat first | exact FgtsR.nil | exact FgtR.k | exact FgtR.z rfl | exact FgtR.z (by assumption) | apply FgtR.s | apply FgtsR.cons))
local macro_rules
  | `(tactic| walk_at "x") => `(tactic| first
    | ((with_reducible apply wp_varV); (focus exact rfl)) | ((with_reducible apply wp_varO); (focus exact rfl)) | ((with_reducible apply wp_varR); (focus exact rfl))
    | ((with_reducible apply opq); (focus exact rfl); (focus exact rfl); (focus (first | exact ev_eqI | exact ev_neI | exact ev_ltI | exact ev_leI | exact ev_gtI | exact ev_geI | exact ev_in2 | exact ev_in2n | exact ev_in4n | exact ev_isT | exact ev_isF | exact ev_isnT | exact ev_isnF | exact ev_eqQ0 | exact ev_eqQ1 | exact ev_eqQ | exact ev_neQ | exact ev_strT | exact ev_strF n1 | exact ev_strF n2 | exact ev_strF n3 | exact ev_strF n4 | exact ev_strF n5 | exact ev_strF n6 | exact rfl)))
    | ((with_reducible apply unq); (focus exact rfl); (focus exact rfl))
    | ((with_reducible first | apply putqV | apply putqN); walk_at "put")
    | ((with_reducible apply putqB); (focus exact rfl); (focus exact rfl); walk_at "put"; walk_at "put")
    | ((with_reducible apply putq2); walk_at "put"; walk_at "put")
    | ((with_reducible apply parq); walk_at "put"; walk_at "put")
    | ((with_reducible apply wp_callR); (focus (repeat first | exact RefsR.nil | apply RefsR.v | apply RefsR.r)); (focus decide))
    | ((with_reducible apply wp_ar); (focus exact rfl))
    | ((with_reducible apply fin_rt); (focus exact rfl); (focus exact rfl))
    | ((with_reducible apply fin_nx); (focus exact rfl))
    | ((with_reducible apply wp_appendR); (focus exact rfl))
    | (with_reducible refine ⟨_, rfl, ?_⟩) | (with_reducible refine ⟨_, .inl rfl, ?_⟩) | (with_reducible refine ⟨_, .inr (.inl rfl), ?_⟩) | (with_reducible refine ⟨_, .inr (.inr rfl), ?_⟩)
    | (with_reducible apply callq0) | ((with_reducible apply frzB); (focus exact rfl); (focus exact rfl); walk_at "put")
    | ((with_reducible apply callq1); walk_at "set")
    | ((with_reducible apply callq2); walk_at "set"; walk_at "set")
    | ((with_reducible first | apply fgt_nx | apply fgt_bk | apply fgt_ct); walk_at "fgt")
    | ((with_reducible apply brT); (focus exact rfl)) | ((with_reducible apply brF); (focus exact rfl)))
local macro_rules
  | `(tactic| walk_at "r") => `(tactic| repeat first | walk_at "w" | walk_at "x")
local macro_rules
  | `(tactic| walk_at "ri") => `(tactic| repeat first | walk_at "w" | walk_at "x" | (with_reducible refine wp_if ?_))
local macro_rules
  | `(tactic| walk_at "app") => `(tactic| ((with_reducible apply appq); (focus exact rfl); (focus ((try simp only [List.length_map, List.length_nil, List.length_cons, List.length_append]); unfold line; omega)); walk_at "set"))
local macro_rules
  | `(tactic| walk_at "mul") => `(tactic| ((refine opq rfl rfl (ev_mul ?_) ?_); (focus (apply mulT <;> omega))))
local macro_rules
  | `(tactic| walk_at "rm") => `(tactic| repeat first | walk_at "w" | walk_at "x" | walk_at "mul")
local macro_rules
  | `(tactic| walk_at "len") => `(tactic| (refine And.intro ?_ ?_; (focus (simp [line]; done))))
local macro_rules
  | `(tactic| walk_at "rl") => `(tactic| repeat first | walk_at "w" | walk_at "x" | walk_at "len")
local macro_rules
  | `(tactic| walk_at "ril") => `(tactic| repeat first | walk_at "w" | walk_at "x" | walk_at "len" | (with_reducible refine wp_if ?_))
/-! QAd: to_win. -/
section
variable {Q : R → List Ob → Prop} {n k : Nat} {C : Nat → Nat → Rat} {ps : List Nat} {ns ds : List Int}
def kvL (L : List (Nat × Rat)) : List (Key × PV) := L.map fun z => (.inl (z.1 : Int), rq z.2)
theorem pairs_kv (L : List (Nat × Rat)) : (L.map pw).mapM pairK? = some (kvL L) := by
  induction L with
  | nil => rfl
  | cons z L ih =>
    rw [List.map_cons, List.mapM_cons, ih]
    rfl
theorem put_new {kvs : List (Key × PV)} {k : Key} {v : PV} (h : ∀ kv ∈ kvs, kv.1 ≠ k) : dPut kvs k v = kvs ++ [(k, v)] := by
  unfold dPut
  rw [if_neg]
  intro z
  rw [List.find?_isSome] at z
  obtain ⟨kv, h1, h2⟩ := z
  exact h kv h1 (of_decide_eq_true h2)
theorem get_kv {L : List (Nat × Rat)} {p : Nat} (hp : p ∈ L.map (·.1)) : dGet (kvL L) (.inl (p : Int)) = some (rq (lk L p)) := by
  unfold dGet kvL lk
  induction L with
  | nil => cases hp
  | cons z L ih =>
    rw [List.map_cons, List.find?_cons, List.find?_cons]
    by_cases c : z.1 = p
    · subst c; simp
    · have h1 : ¬ (Sum.inl (z.1 : Int) : Key) = .inl (p : Int) := fun e => c (Int.ofNat_inj.mp (Sum.inl.inj e))
      rw [decide_eq_false h1, decide_eq_false c]
      refine ih ?_
      rw [List.map_cons] at hp
      exact (List.mem_cons.mp hp).resolve_left fun e => c e.symm
theorem merge_kv : ∀ (M L : List (Nat × Rat)), ((M ++ L).map (·.1)).Nodup → dMerge (kvL M) (kvL L) = kvL (M ++ L)
  | M, [], _ => by rw [List.append_nil]; rfl
  | M, z :: L, h => by
    have h0 : M ++ z :: L = (M ++ [z]) ++ L := by simp
    rw [h0] at h ⊢
    rw [← merge_kv (M ++ [z]) L h]
    show (kvL L).foldl _ (dPut (kvL M) (.inl (z.1 : Int)) (rq z.2)) = (kvL L).foldl _ (kvL (M ++ [z]))
    rw [put_new]
    · unfold kvL
      rw [List.map_append]
      rfl
    · intro kv hkv e
      obtain ⟨y, hy, rfl⟩ := List.mem_map.mp hkv
      have e' : (y.1 : Int) = (z.1 : Int) := by simpa using e
      rw [List.map_append, List.map_append] at h
      have h2 := (List.nodup_append.mp (List.nodup_append.mp h).1).2.2 y.1 (List.mem_map.mpr ⟨y, hy, rfl⟩) z.1 (by simp)
      omega
theorem of_to_win (hC : Lad n 97 C) (hk : k ≤ 3) (hn : n = 2 ^ k) (hp : ps.Perm (List.range n)) (q : (∀ z ∈ (mkT k ps).wl C, Bq (bbW k) z.2) → Q (.val (.tuple (rowP n (lk ((mkT k ps).wl C))))) []) : Ret d_to_win [.val (.tuple (ladV n C)), .val (.tuple (ps.map natI))] Q := by
  have hln : (line : Nat) = 16777216 := rfl
  have hl : ps.length = n := by rw [hp.length_eq, List.length_range]
  have h8 : 2 ^ k ≤ 8 := Nat.pow_le_pow_right (n := 2) (by decide) hk
  have hpl : (mkT k ps).pl = ps := mk_pl (by omega)
  have hfst : ((mkT k ps).wl C).map (·.1) = ps := by rw [wl_fst, hpl]
  refine ret_mkR (by repeat constructor) ?_
  unfold b_to_win
  walk_at "rl"
  rw [show (40 : Nat) = k + 1 + (39 - k) by omega]
  refine of_winners hC k (39 - k) ps hk (by omega) (fun p h => List.mem_range.mp (hp.mem_iff.mp h)) fun hb => ?_
  walk_at "rl"
  generalize (mkT k ps).wl C = L at *
  have ed : fDictL (.ob (.lst (L.map pw))) = some (.new (.dct (kvL L))) := by
    unfold fDictL
    show (((L.map pw).mapM pairK?).map fun kvs => R.new (.dct (dMerge [] kvs))) = _
    rw [pairs_kv]
    have := merge_kv [] L (by rw [List.nil_append, hfst]; exact hp.nodup_iff.mpr List.nodup_range)
    rw [List.nil_append] at this
    show some (R.new (.dct (dMerge (kvL []) (kvL L)))) = _
    rw [this]
  refine unq rfl ed ?_
  walk_at "rl"
  refine wp_lcN (ρ1 := [some (.val (.tuple (ladV n C))), some (.val (.tuple (ps.map natI))), some (.own (.dct (kvL L))), none]) n (fun p => rq (lk L p)) (by simp) (by omega) ?_ ?_ ?_
  · walk_at "rl"
    rw [List.length_map, hl]
    exact ⟨rfl, rfl⟩
  · intro p hp'
    dsimp only [set_s, set_z]
    unfold e1_to_win
    walk_at "rl"
    have eg : fDget (.ob (.dct (kvL L))) (.pv (natI p)) = some (.val (rq (lk L p))) := by
      show (dGet (kvL L) (.inl (p : Int))).map R.val = _
      rw [get_kv (by rw [hfst]; exact hp.mem_iff.mpr (List.mem_range.mpr hp'))]
      rfl
    refine opq rfl rfl eg ?_
    first | rfl | exact ⟨rfl, rfl⟩ | (walk_at "rl"; first | rfl | exact ⟨rfl, rfl⟩)
  rw [rowP_map]
  walk_at "rl"
  exact q hb
end
end Py
namespace Py
open PySem D
local macro_rules
  | `(tactic| walk_at "w") => `(tactic| with_reducible first
    | refine seq_nx ?_ | refine seq_rt ?_ | refine seq_bk ?_ | refine seq_ct ?_ | refine wp_seq ?_ | refine wp_asg ?_ | refine wp_next ?_ | refine wp_ret ?_ | refine wp_retN ?_ | refine wp_brk ?_ | refine wp_cont ?_ | refine wp_expr ?_ | refine wp_op ?_ | refine wp_un ?_ | refine wp_c ?_
    | refine unB ?_ | refine wp_truB ?_ | refine wp_and ?_ | refine wp_or ?_ | refine wp_not ?_ | refine wp_ifE ?_ | refine wp_tup ?_ | refine wp_lst ?_ | refine wp_lcons ?_ | refine wp_lnil ?_ | refine frzV ?_ | refine frzN ?_ | refine wp_frz ?_ | refine wp_sl ?_ | refine wp_onone ?_ | refine wp_osome ?_
    | refine wp_anil ?_ | refine wp_av ?_ | refine wp_andV ?_ | refine wp_orV ?_ | refine wp_notV ?_ | refine wp_fgtR ?_ | refine turn_nx ?_ | refine turn_rt ?_ | refine turn_bk ?_ | refine turn_ct ?_ | refine fgt_rt ?_ | refine wp_par ?_ | refine wp_chain ?_ | refine wp_seqI ?_)
local macro_rules
  | `(tactic| walk_at "put") => `(tactic| focus ((repeat apply PutR.s); first | exact PutR.z rfl | exact PutR.z (by assumption)))
local macro_rules
  | `(tactic| walk_at "set") => `(tactic| focus ((repeat apply SetR.s); first | exact SetR.o | exact SetR.r))
local macro_rules
  | `(tactic| walk_at "fgt") => `(tactic| focus (repeat first | exact FgtsR.nil | exact FgtR.k | exact FgtR.z rfl | exact FgtR.z (by assumption) | apply FgtR.s | apply FgtsR.cons))
local macro_rules
  | `(tactic| walk_at "x") => `(tactic| first
    | ((with_reducible apply wp_varV); (focus exact rfl)) | ((with_reducible apply wp_varO); (focus exact rfl)) | ((with_reducible apply wp_varR); (focus exact rfl))
    | ((with_reducible apply opq); (focus exact rfl); (focus exact rfl); (focus (first | exact ev_eqI | exact ev_neI | exact ev_ltI | exact ev_leI | exact ev_gtI | exact ev_geI | exact ev_in2 | exact ev_in2n | exact ev_in4n | exact ev_isT | exact ev_isF | exact ev_isnT | exact ev_isnF | exact ev_eqQ0 | exact ev_eqQ1 | exact ev_eqQ | exact ev_neQ | exact ev_strT | exact ev_strF n1 | exact ev_strF n2 | exact ev_strF n3 | exact ev_strF n4 | exact ev_strF n5 | exact ev_strF n6 | exact rfl)))
    | ((with_reducible apply unq); (focus exact rfl); (focus exact rfl))
    | ((with_reducible first | apply putqV | apply putqN); walk_at "put")
    | ((with_reducible apply putqB); (focus exact rfl); (focus exact rfl); walk_at "put"; walk_at "put")
    | ((with_reducible apply putq2); walk_at "put"; walk_at "put")
    | ((with_reducible apply parq); walk_at "put"; walk_at "put")
    | ((with_reducible apply wp_callR); (focus (repeat first | exact RefsR.nil | apply RefsR.v | apply RefsR.r)); (focus decide))
    | ((with_reducible apply wp_ar); (focus exact rfl))
    | ((with_reducible apply fin_rt); (focus exact rfl); (focus exact rfl))
    | ((with_reducible apply fin_nx); (focus exact rfl))
    | ((with_reducible apply wp_appendR); (focus exact rfl))
    | (with_reducible refine ⟨_, rfl, ?_⟩) | (with_reducible refine ⟨_, .inl rfl, ?_⟩) | (with_reducible refine ⟨_, .inr (.inl rfl), ?_⟩) | (with_reducible refine ⟨_, .inr (.inr rfl), ?_⟩)
    | (with_reducible apply callq0) | ((with_reducible apply frzB); (focus exact rfl); (focus exact rfl); walk_at "put")
    | ((with_reducible apply callq1); walk_at "set")
    | ((with_reducible apply callq2); walk_at "set"; walk_at "set")
    | ((with_reducible first | apply fgt_nx | apply fgt_bk | apply fgt_ct); walk_at "fgt")
    | ((with_reducible apply brT); (focus exact rfl)) | ((with_reducible apply brF); (focus exact rfl)))
local macro_rules
  | `(tactic| walk_at "r") => `(tactic| repeat first | walk_at "w" | walk_at "x")
local macro_rules
  | `(tactic| walk_at "ri") => `(tactic| repeat first | walk_at "w" | walk_at "x" | (with_reducible refine wp_if ?_))
local macro_rules
  | `(tactic| walk_at "app") => `(tactic| ((with_reducible apply appq); (focus exact rfl); (focus ((try simp only [List.length_map, List.length_nil, List.length_cons, List.length_append]); unfold line; omega)); walk_at "set"))
local macro_rules
  | `(tactic| walk_at "mul") => `(tactic| ((refine opq rfl rfl (ev_mul ?_) ?_); (focus (apply mulT <;> omega))))
local macro_rules
  | `(tactic| walk_at "rm") => `(tactic| repeat first | walk_at "w" | walk_at "x" | walk_at "mul")
local macro_rules
  | `(tactic| walk_at "len") => `(tactic| (refine And.intro ?_ ?_; (focus (simp [line]; done))))
local macro_rules
  | `(tactic| walk_at "rl") => `(tactic| repeat first | walk_at "w" | walk_at "x" | walk_at "len")
local macro_rules
  | `(tactic| walk_at "ril") => `(tactic| repeat first | walk_at "w" | walk_at "x" | walk_at "len" | (with_reducible refine wp_if ?_))
/-! QAe: the law's own rounds. -/
abbrev iw (z : Nat × Int) : PV := .tuple [natI z.1, .int z.2]
def vw (L : List (Nat × Int)) (d : Int) : List (Nat × Rat) := L.map fun z => (z.1, (z.2 : Rat) / (d : Rat))
def blkV (L : List (Nat × Int)) (d : Int) : PV := .tuple [.list (L.map iw), .int d]
structure Blk (n bt bd : Nat) (L : List (Nat × Int)) (d : Int) : Prop where
  mem : ∀ z ∈ L, z.1 < n ∧ z.2.natAbs < 2 ^ bt
  pos : 0 < d
  bits : d.natAbs < 2 ^ bd
section
variable {Q : R → List Ob → Prop} {n bt bd : Nat} {C : Nat → Nat → Rat} {A B : List (Nat × Int)} {D1 D2 : Int} {ps : List Nat} {ns ds : List Int}
theorem lad_at {p q : Nat} (hp : p < n) : atI (ladV n C) (p : Int) = some (.tuple (rowP n (C p))) := atI_nat (by simp [ladV, hp])
theorem natAbs_mul_lt {a b : Int} {m n : Nat} (ha : a.natAbs < 2 ^ m) (hb : b.natAbs < 2 ^ n) : (a * b).natAbs < 2 ^ (m + n) := by
  rw [Int.natAbs_mul, Nat.pow_add]
  exact Nat.mul_lt_mul'' ha hb
theorem mul_den (x : Rat) : x * (x.den : Rat) = (x.num : Rat) := by
  have := qv_nd x
  unfold qv at this
  have hd : ((x.den : Int) : Rat) ≠ 0 := ic_ne (by have := x.den_pos; omega)
  have e : ((x.den : Int) : Rat) = (x.den : Rat) := rfl
  rw [← e]
  dsimp only at this
  grind
theorem vw_len : (vw A D1).length = A.length := by simp [vw]
def deep (n : Nat) (C : Nat → Nat → Rat) (A B : List (Nat × Int)) (d : Nat) : Prop := ∀ a ∈ A, ∀ b ∈ B, (C a.1 b.1).den ∣ d
theorem met_loop {d : Nat} {x : Nat} {v5 v7 : PV} {L : List PV} {v1 v2 v4 : Option Sl} {QS : Fl → Env → Prop} (hC : Lad n 97 C) (hx : x < n) (hB : Blk n bt bd B D2) (hl : B.length ≤ 4) (hbt : bt ≤ 100000) (hd : 0 < d) (hdb : d ≤ 2 ^ 1552) (hdv : ∀ b ∈ B, (C x b.1).den ∣ d)
    (q : ∀ w : Int, w.natAbs < 2 ^ (bt + 1660) → (w : Rat) = (d : Rat) * (D2 : Rat) * metR C x (vw B D2) → QS .nx [some (.val (.tuple (ladV n C))), v1, v2, some (.val (.int (d : Int))), v4, some (.val v5), some (.own (.lst L)), some (.val v7), some (.val (blkV B D2)), none, none, some (.val (natI x)), some (.val (.int w)), none]) :
    Wp (sFor (iSeq (mOp fIx (mVar 8) (mC (.int 0)))) (gTup [13, 10]) l3_law_met) [some (.val (.tuple (ladV n C))), v1, v2, some (.val (.int (d : Int))), v4, some (.val v5), some (.own (.lst L)), some (.val v7), some (.val (blkV B D2)), none, none, some (.val (natI x)), some (.val (.int 0)), none] QS := by
  have hln : (line : Nat) = 16777216 := rfl
  refine wp_forL (fun j ρ => ∃ w : Int, w.natAbs ≤ j * 2 ^ (bt + 97 + 1553) ∧ (w : Rat) = (d : Rat) * (D2 : Rat) * metT C x (vw B D2) j ∧ ρ = [some (.val (.tuple (ladV n C))), v1, v2, some (.val (.int (d : Int))), v4, some (.val v5), some (.own (.lst L)), some (.val v7), some (.val (blkV B D2)), none, none, some (.val (natI x)), some (.val (.int w)), none]) (B.map iw) ?_ ?_ ?_
  · walk_at "rl"
    refine ⟨0, by omega, ?_, rfl⟩
    have : metT C x (vw B D2) 0 = 0 := rfl
    rw [this, Rat.mul_zero]
    rfl
  · rintro j hj _ ⟨w, hw, e, rfl⟩
    rw [List.length_map] at hj
    have e0 : (B.map iw)[j]'(by rw [List.length_map]; exact hj) = iw B[j] := by simp
    obtain ⟨h1, h2⟩ := hB.mem _ (List.getElem_mem hj)
    have h3 := hdv _ (List.getElem_mem hj)
    have h4 := hC.bits _ hx _ h1
    have hs := met_succ (C := C) (x := x) (b := vw B D2) (i := j) (by rw [vw_len]; exact hj)
    have hg : (vw B D2)[j]'(by rw [vw_len]; exact hj) = (B[j].1, (B[j].2 : Rat) / (D2 : Rat)) := by simp [vw]
    rw [hg] at hs
    rw [e0]
    generalize B[j] = y at *
    obtain ⟨r, t⟩ := y
    dsimp only at *
    obtain ⟨c, hc⟩ : ∃ c, c = C x r := ⟨_, rfl⟩
    rw [← hc] at h3 h4 hs
    obtain ⟨f, hf⟩ := h3
    have hfd : f ≤ d := by rw [hf]; exact Nat.le_mul_of_pos_left f c.den_pos
    have hfb : ((f : Int)).natAbs < 2 ^ 1553 := by
      rw [Int.natAbs_natCast]
      exact Nat.lt_of_le_of_lt (Nat.le_trans hfd hdb) (Nat.pow_lt_pow_right (by decide) (by decide))
    have hdf : ((d : Int)).fdiv ((c.den : Nat) : Int) = (f : Int) := by
      have := c.den_pos
      rw [Int.fdiv_eq_ediv_of_nonneg _ (by omega), hf, Int.natCast_mul, Int.mul_ediv_cancel_left _ (by omega)]
    unfold l3_law_met
    walk_at "rl"
    refine opq rfl rfl (ev_ix (a := (x : Int)) (.inl rfl) (lad_at (q := 0) hx)) ?_
    walk_at "rl"
    refine opq rfl rfl (ev_ix (a := (r : Int)) (.inl rfl) (atI_nat (rowP_at h1))) ?_
    walk_at "rl"
    rw [← hc]
    have m1 := natAbs_mul_lt h2 h4.1
    refine opq rfl rfl (ev_mul (mulOk_of _ _ h2 h4.1 (by omega))) ?_
    walk_at "rl"
    refine opq rfl rfl (ev_ix (a := (x : Int)) (.inl rfl) (lad_at (q := 0) hx)) ?_
    walk_at "rl"
    refine opq rfl rfl (ev_ix (a := (r : Int)) (.inl rfl) (atI_nat (rowP_at h1))) ?_
    walk_at "rl"
    rw [← hc]
    refine opq rfl rfl (ev_div (by have := c.den_pos; omega)) ?_
    rw [hdf]
    walk_at "rl"
    refine opq rfl rfl (ev_mul (mulOk_of _ _ m1 hfb (by omega))) ?_
    have m2 := natAbs_mul_lt m1 hfb
    walk_at "rl"
    refine ⟨_, ?_, ?_, rfl⟩
    · dsimp only
      have := Int.natAbs_add_le w (t * c.num * (f : Int))
      rw [Nat.add_mul, Nat.one_mul]
      omega
    · rw [hs, Rat.intCast_add, e, Rat.intCast_mul, Rat.intCast_mul]
      have hD : (D2 : Rat) ≠ 0 := ic_ne (by have := hB.pos; omega)
      have hcd : c * (c.den : Rat) = (c.num : Rat) := mul_den c
      have hdr : (d : Rat) = (c.den : Rat) * (f : Rat) := by rw [hf, Rat.natCast_mul]
      have hff : (((f : Nat) : Int) : Rat) = (f : Rat) := rfl
      rw [hff, hdr, ← hcd]
      grind
  · rintro _ ⟨w, hw, e, rfl⟩
    rw [List.length_map] at hw e
    refine q w ?_ ?_
    · refine Nat.lt_of_le_of_lt hw ?_
      have h1 := Nat.mul_le_mul_right (2 ^ (bt + 97 + 1553)) hl
      have h2 : 2 ^ (bt + 1660) = 2 ^ 10 * 2 ^ (bt + 97 + 1553) := by rw [← Nat.pow_add]; congr 1; omega
      have h3 := Nat.two_pow_pos (bt + 97 + 1553)
      omega
    · rw [e]
      unfold metT
      rw [List.take_of_length_le (by rw [vw_len]; exact Nat.le_refl _)]
theorem vw_app {L M : List (Nat × Int)} {d : Int} : vw (L ++ M) d = vw L d ++ vw M d := by unfold vw; rw [List.map_append]
def sideOk (C : Nat → Nat → Rat) (A B : List (Nat × Int)) (D1 D2 : Int) (d i : Nat) (L : List (Nat × Int)) : Prop := vw L (D1 * D2 * d) = (vw (A.take i) D1).map fun z => (z.1, z.2 * metR C z.1 (vw B D2))
theorem side_met {d : Nat} {v1 v2 : Option Sl} {L0 : List (Nat × Int)} {QS : Fl → Env → Prop} (hC : Lad n 97 C) (hA : Blk n bt bd A D1) (hB : Blk n bt bd B D2) (hl1 : A.length ≤ 4) (hl : B.length ≤ 4) (hbt : bt ≤ 100000) (hd : 0 < d) (hdb : d ≤ 2 ^ 1552) (hdv : deep n C A B d) (h0 : L0.length ≤ 1000)
    (q : ∀ L, L.length = A.length → (∀ z ∈ L, z.1 < n ∧ z.2.natAbs < 2 ^ (2 * bt + 1660)) → sideOk C A B D1 D2 d A.length L → QS .nx [some (.val (.tuple (ladV n C))), v1, v2, some (.val (.int (d : Int))), none, none, some (.own (.lst ((L0 ++ L).map iw))), some (.val (blkV A D1)), some (.val (blkV B D2)), none, none, none, none, none]) :
    Wp (sFor (iSeq (mOp fIx (mVar 7) (mC (.int 0)))) (gTup [11, 5]) l4_law_met) [some (.val (.tuple (ladV n C))), v1, v2, some (.val (.int (d : Int))), none, none, some (.own (.lst (L0.map iw))), some (.val (blkV A D1)), some (.val (blkV B D2)), none, none, none, none, none] QS := by
  have hln : (line : Nat) = 16777216 := rfl
  refine wp_forL (fun i ρ => ∃ L : List (Nat × Int), L.length = i ∧ (∀ z ∈ L, z.1 < n ∧ z.2.natAbs < 2 ^ (2 * bt + 1660)) ∧ sideOk C A B D1 D2 d i L ∧ ρ = [some (.val (.tuple (ladV n C))), v1, v2, some (.val (.int (d : Int))), none, none, some (.own (.lst ((L0 ++ L).map iw))), some (.val (blkV A D1)), some (.val (blkV B D2)), none, none, none, none, none]) (A.map iw) ?_ ?_ ?_
  · walk_at "rl"
    exact ⟨[], rfl, fun z h => absurd h List.not_mem_nil, rfl, by rw [List.append_nil]⟩
  · rintro i hi _ ⟨L, hL, hb, hs, rfl⟩
    rw [List.length_map] at hi
    have e0 : (A.map iw)[i]'(by rw [List.length_map]; exact hi) = iw A[i] := by simp
    obtain ⟨h1, h2⟩ := hA.mem _ (List.getElem_mem hi)
    have h3 := hdv _ (List.getElem_mem hi)
    have ht := List.take_succ_eq_append_getElem hi
    rw [e0]
    generalize A[i] = y at *
    obtain ⟨x, t⟩ := y
    dsimp only at h1 h2 h3
    unfold l4_law_met
    walk_at "rl"
    refine met_loop hC h1 hB hl hbt hd hdb h3 fun w hw ew => ?_
    walk_at "rl"
    refine opq rfl rfl (ev_mul (mulOk_of _ _ h2 hw (by omega))) ?_
    walk_at "rl"
    apply appq (xs := (L0 ++ L).map iw) rfl (by simp; omega)
    walk_at "set"
    walk_at "rl"
    refine ⟨L ++ [(x, t * w)], by simp [hL], fun z hz => ?_, ?_, by rw [← List.append_assoc, List.map_append (l₁ := L0 ++ L)]; rfl⟩
    · rcases List.mem_append.mp hz with hz | hz
      · exact hb z hz
      · rw [List.mem_singleton.mp hz]
        exact ⟨h1, Nat.lt_of_lt_of_le (natAbs_mul_lt h2 hw) (Nat.pow_le_pow_right (by decide) (by omega))⟩
    · unfold sideOk at hs ⊢
      rw [vw_app, hs, ht, vw_app, List.map_append]
      congr 1
      unfold vw
      rw [List.map_singleton, List.map_singleton, List.map_singleton]
      congr 2
      dsimp only
      have q1 : (D1 : Rat) ≠ 0 := ic_ne (by have := hA.pos; omega)
      have q2 : (D2 : Rat) ≠ 0 := ic_ne (by have := hB.pos; omega)
      have q3 : (((d : Nat) : Int) : Rat) ≠ 0 := ic_ne (by omega)
      have q4 : (d : Rat) = (((d : Nat) : Int) : Rat) := rfl
      rw [Rat.intCast_mul, Rat.intCast_mul, Rat.intCast_mul, ew, q4]
      unfold vw
      generalize metR C x _ = M
      generalize (((d : Nat) : Int) : Rat) = dd at *
      grind
  · rintro _ ⟨L, hL, hb, hs, rfl⟩
    rw [List.length_map] at hL hs
    exact q L hL hb hs
end
end Py
namespace Py
open PySem D
local macro_rules
  | `(tactic| walk_at "w") => `(tactic| with_reducible first
    | refine seq_nx ?_ | refine seq_rt ?_ | refine seq_bk ?_ | refine seq_ct ?_ | refine wp_seq ?_ | refine wp_asg ?_ | refine wp_next ?_ | refine wp_ret ?_ | refine wp_retN ?_ | refine wp_brk ?_ | refine wp_cont ?_ | refine wp_expr ?_ | refine wp_op ?_ | refine wp_un ?_ | refine wp_c ?_
    | refine unB ?_ | refine wp_truB ?_ | refine wp_and ?_ | refine wp_or ?_ | refine wp_not ?_ | refine wp_ifE ?_ | refine wp_tup ?_ | refine wp_lst ?_ | refine wp_lcons ?_ | refine wp_lnil ?_ | refine frzV ?_ | refine frzN ?_ | refine wp_frz ?_ | refine wp_sl ?_ | refine wp_onone ?_ | refine wp_osome ?_
    | refine wp_anil ?_ | refine wp_av ?_ | refine wp_andV ?_ | refine wp_orV ?_ | refine wp_notV ?_ | refine wp_fgtR ?_ | refine turn_nx ?_ | refine turn_rt ?_ | refine turn_bk ?_ | refine turn_ct ?_ | refine fgt_rt ?_ | refine wp_par ?_ | refine wp_chain ?_ | refine wp_seqI ?_)
local macro_rules
  | `(tactic| walk_at "put") => `(tactic| focus ((repeat apply PutR.s); first | exact PutR.z rfl | exact PutR.z (by assumption)))
local macro_rules
  | `(tactic| walk_at "set") => `(tactic| focus ((repeat apply SetR.s); first | exact SetR.o | exact SetR.r))
local macro_rules
  | `(tactic| walk_at "fgt") => `(tactic| focus (repeat first | exact FgtsR.nil | exact FgtR.k | exact FgtR.z rfl | exact FgtR.z (by assumption) | apply FgtR.s | apply FgtsR.cons))
local macro_rules
  | `(tactic| walk_at "x") => `(tactic| first
    | ((with_reducible apply wp_varV); (focus exact rfl)) | ((with_reducible apply wp_varO); (focus exact rfl)) | ((with_reducible apply wp_varR); (focus exact rfl))
    | ((with_reducible apply opq); (focus exact rfl); (focus exact rfl); (focus (first | exact ev_eqI | exact ev_neI | exact ev_ltI | exact ev_leI | exact ev_gtI | exact ev_geI | exact ev_in2 | exact ev_in2n | exact ev_in4n | exact ev_isT | exact ev_isF | exact ev_isnT | exact ev_isnF | exact ev_eqQ0 | exact ev_eqQ1 | exact ev_eqQ | exact ev_neQ | exact ev_strT | exact ev_strF n1 | exact ev_strF n2 | exact ev_strF n3 | exact ev_strF n4 | exact ev_strF n5 | exact ev_strF n6 | exact rfl)))
    | ((with_reducible apply unq); (focus exact rfl); (focus exact rfl))
    | ((with_reducible first | apply putqV | apply putqN); walk_at "put")
    | ((with_reducible apply putqB); (focus exact rfl); (focus exact rfl); walk_at "put"; walk_at "put")
    | ((with_reducible apply putq2); walk_at "put"; walk_at "put")
    | ((with_reducible apply parq); walk_at "put"; walk_at "put")
    | ((with_reducible apply wp_callR); (focus (repeat first | exact RefsR.nil | apply RefsR.v | apply RefsR.r)); (focus decide))
    | ((with_reducible apply wp_ar); (focus exact rfl))
    | ((with_reducible apply fin_rt); (focus exact rfl); (focus exact rfl))
    | ((with_reducible apply fin_nx); (focus exact rfl))
    | ((with_reducible apply wp_appendR); (focus exact rfl))
    | (with_reducible refine ⟨_, rfl, ?_⟩) | (with_reducible refine ⟨_, .inl rfl, ?_⟩) | (with_reducible refine ⟨_, .inr (.inl rfl), ?_⟩) | (with_reducible refine ⟨_, .inr (.inr rfl), ?_⟩)
    | (with_reducible apply callq0) | ((with_reducible apply frzB); (focus exact rfl); (focus exact rfl); walk_at "put")
    | ((with_reducible apply callq1); walk_at "set")
    | ((with_reducible apply callq2); walk_at "set"; walk_at "set")
    | ((with_reducible first | apply fgt_nx | apply fgt_bk | apply fgt_ct); walk_at "fgt")
    | ((with_reducible apply brT); (focus exact rfl)) | ((with_reducible apply brF); (focus exact rfl)))
local macro_rules
  | `(tactic| walk_at "r") => `(tactic| repeat first | walk_at "w" | walk_at "x")
local macro_rules
  | `(tactic| walk_at "ri") => `(tactic| repeat first | walk_at "w" | walk_at "x" | (with_reducible refine wp_if ?_))
local macro_rules
  | `(tactic| walk_at "app") => `(tactic| ((with_reducible apply appq); (focus exact rfl); (focus ((try simp only [List.length_map, List.length_nil, List.length_cons, List.length_append]); unfold line; omega)); walk_at "set"))
local macro_rules
  | `(tactic| walk_at "mul") => `(tactic| ((refine opq rfl rfl (ev_mul ?_) ?_); (focus (apply mulT <;> omega))))
local macro_rules
  | `(tactic| walk_at "rm") => `(tactic| repeat first | walk_at "w" | walk_at "x" | walk_at "mul")
local macro_rules
  | `(tactic| walk_at "len") => `(tactic| (refine And.intro ?_ ?_; (focus (simp [line]; done))))
local macro_rules
  | `(tactic| walk_at "rl") => `(tactic| repeat first | walk_at "w" | walk_at "x" | walk_at "len")
local macro_rules
  | `(tactic| walk_at "ril") => `(tactic| repeat first | walk_at "w" | walk_at "x" | walk_at "len" | (with_reducible refine wp_if ?_))
/-! QAf: the law's rounds. -/
section
variable {Q : R → List Ob → Prop} {n bt bd : Nat} {C : Nat → Nat → Rat} {A B : List (Nat × Int)} {D1 D2 : Int} {ps : List Nat} {ns ds : List Int}
theorem den_dvd {x : Rat} {d : Nat} {m : Int} (h : x * (d : Rat) = (m : Rat)) : x.den ∣ d := by
  have e : x.num * (d : Int) = m * (x.den : Int) := by
    refine Rat.intCast_inj.mp ?_
    rw [Rat.intCast_mul, Rat.intCast_mul, ← mul_den x]
    have e1 : (((d : Nat) : Int) : Rat) = (d : Rat) := rfl
    have e2 : (((x.den : Nat) : Int) : Rat) = (x.den : Rat) := rfl
    rw [e1, e2, ← h]
    grind
  have hd : (x.den : Int) ∣ x.num * (d : Int) := ⟨m, by rw [e, Int.mul_comm]⟩
  have h2 := Int.natAbs_dvd_natAbs.mpr hd
  rw [Int.natAbs_natCast, Int.natAbs_mul, Int.natAbs_natCast] at h2
  exact (Nat.Coprime.symm x.reduced).dvd_of_dvd_mul_left h2
theorem den_one {c : Rat} {d : Nat} (h : c.den ∣ d) : (1 - c).den ∣ d := by
  obtain ⟨f, rfl⟩ := h
  refine den_dvd (m := (c.den : Int) * f - c.num * f) ?_
  rw [Rat.intCast_sub, Rat.intCast_mul, Rat.intCast_mul, ← mul_den c, Rat.natCast_mul]
  have e1 : (((f : Nat) : Int) : Rat) = (f : Rat) := rfl
  have e2 : (((c.den : Nat) : Int) : Rat) = (c.den : Rat) := rfl
  rw [e1, e2]
  grind
theorem lcm_fdiv (d e : Nat) : ((d : Int) * (e : Int)).fdiv ((Nat.gcd d e : Nat) : Int) = ((Nat.lcm d e : Nat) : Int) := by
  rw [Int.fdiv_eq_ediv_of_nonneg _ (by omega), ← Int.natCast_mul, ← Int.natCast_ediv]
  rfl
theorem of_lcm63 {d e : Nat} {k1 : Nat} {QS : R → Env → Prop} (hd : 0 < d) (hk : d ≤ 2 ^ k1) (he : e < 2 ^ 97) : 0 < e → Nat.lcm d e ≤ 2 ^ (k1 + 97) ∧ 0 < Nat.lcm d e := fun h => by
  refine ⟨?_, Nat.lcm_pos hd h⟩
  refine Nat.le_trans (Nat.div_le_self _ _) ?_
  rw [Nat.pow_add]
  exact Nat.mul_le_mul hk (Nat.le_of_lt he)
theorem den_loop {d x i : Nat} {v5 : PV} {QS : Fl → Env → Prop} (hC : Lad n 97 C) (hx : x < n) (hB : Blk n bt bd B D2) (hl : B.length ≤ 4) (hd : 0 < d) (hi : i < 4) (hdb : d ≤ 2 ^ (97 * (4 * i)))
    (q : ∀ d', 0 < d' → d' ≤ 2 ^ (97 * (4 * (i + 1))) → d ∣ d' → (∀ b ∈ B, (C x b.1).den ∣ d') → QS .nx [some (.val (.tuple (ladV n C))), some (.val (blkV A D1)), some (.val (blkV B D2)), some (.val (.int (d' : Int))), some (.val (natI x)), some (.val v5), none, none, none, none, none, none, none, none]) :
    Wp (sFor (iSeq (mOp fIx (mVar 2) (mC (.int 0)))) (gTup [9, 10]) l1_law_met) [some (.val (.tuple (ladV n C))), some (.val (blkV A D1)), some (.val (blkV B D2)), some (.val (.int (d : Int))), some (.val (natI x)), some (.val v5), none, none, none, none, none, none, none, none] QS := by
  have hln : (line : Nat) = 16777216 := rfl
  refine wp_forL (fun j ρ => ∃ d', 0 < d' ∧ d' ≤ 2 ^ (97 * (4 * i + j)) ∧ d ∣ d' ∧ (∀ b ∈ B.take j, (C x b.1).den ∣ d') ∧ ρ = [some (.val (.tuple (ladV n C))), some (.val (blkV A D1)), some (.val (blkV B D2)), some (.val (.int (d' : Int))), some (.val (natI x)), some (.val v5), none, none, none, none, none, none, none, none]) (B.map iw) ?_ ?_ ?_
  · walk_at "rl"
    exact ⟨d, hd, hdb, Nat.dvd_refl d, fun b h => absurd h (by rw [List.take_zero]; exact List.not_mem_nil), rfl⟩
  · rintro j hj _ ⟨d', h0, h1, h2, h3, rfl⟩
    rw [List.length_map] at hj
    have e0 : (B.map iw)[j]'(by rw [List.length_map]; exact hj) = iw B[j] := by simp
    obtain ⟨b1, b2⟩ := hB.mem _ (List.getElem_mem hj)
    have ht := List.take_succ_eq_append_getElem hj
    rw [e0]
    generalize B[j] = y at *
    obtain ⟨r, t⟩ := y
    dsimp only at b1 b2
    have hcb := hC.bits _ hx _ b1
    have h5 := Nat.pow_lt_pow_right (a := 2) (by decide) (show 97 * (4 * i + j) < 1600 by omega)
    have c1 : ((d' : Nat) : Int).natAbs < 2 ^ 1600 := by rw [Int.natAbs_natCast]; omega
    have c2 : (((C x r).den : Nat) : Int).natAbs < 2 ^ 97 := by rw [Int.natAbs_natCast]; exact hcb.2
    have c3 := (C x r).den_pos
    unfold l1_law_met
    walk_at "rl"
    refine opq rfl rfl (ev_ix (a := (x : Int)) (.inl rfl) (lad_at (q := 0) hx)) ?_
    walk_at "rl"
    refine opq rfl rfl (ev_ix (a := (r : Int)) (.inl rfl) (atI_nat (rowP_at b1))) ?_
    walk_at "rl"
    refine opq rfl rfl (ev_mul (mulOk_of _ _ c1 c2 (by omega))) ?_
    walk_at "rl"
    refine opq rfl rfl (ev_ix (a := (x : Int)) (.inl rfl) (lad_at (q := 0) hx)) ?_
    walk_at "rl"
    refine opq rfl rfl (ev_ix (a := (r : Int)) (.inl rfl) (atI_nat (rowP_at b1))) ?_
    walk_at "rl"
    refine of_common ?_
    rw [Int.gcd_natCast_natCast]
    walk_at "rl"
    have hg := Nat.gcd_pos_of_pos_left (C x r).den h0
    refine opq rfl rfl (ev_div (by omega)) ?_
    rw [lcm_fdiv]
    walk_at "rl"
    obtain ⟨l1, l2⟩ := of_lcm63 (QS := fun _ _ => True) h0 h1 hcb.2 c3
    refine ⟨Nat.lcm d' (C x r).den, l2, ?_, Nat.dvd_trans h2 (Nat.dvd_lcm_left _ _), fun b hb => ?_, rfl⟩
    · rw [show 97 * (4 * i + (j + 1)) = 97 * (4 * i + j) + 97 by omega]
      exact l1
    · rw [ht] at hb
      rcases List.mem_append.mp hb with hb | hb
      · exact Nat.dvd_trans (h3 b hb) (Nat.dvd_lcm_left _ _)
      · rw [List.mem_singleton.mp hb]
        exact Nat.dvd_lcm_right _ _
  · rintro _ ⟨d', h0, h1, h2, h3, rfl⟩
    rw [List.length_map] at h1 h3
    rw [List.take_length] at h3
    refine q d' h0 (Nat.le_trans h1 (Nat.pow_le_pow_right (by decide) (by omega))) h2 h3
theorem of_met (hC : Lad n 97 C) (hA : Blk n bt bd A D1) (hB : Blk n bt bd B D2) (hne : ∀ a ∈ A, ∀ b ∈ B, a.1 ≠ b.1) (hl1 : A.length ≤ 4) (hl : B.length ≤ 4) (hbt : bt ≤ 100000) (hbd : bd ≤ 100000)
    (q : ∀ L d, Blk n (2 * bt + 1660) (2 * bd + 1553) L d → L.length = A.length + B.length → vw L d = duel C (vw A D1) (vw B D2) → Q (.val (blkV L d)) []) : Ret d_law_met [.val (.tuple (ladV n C)), .val (blkV A D1), .val (blkV B D2)] Q := by
  have hln : (line : Nat) = 16777216 := rfl
  refine ret_mkR (by repeat constructor) ?_
  unfold b_law_met
  walk_at "rl"
  refine wp_forL (fun i ρ => ∃ d, 0 < d ∧ d ≤ 2 ^ (97 * (4 * i)) ∧ (∀ a ∈ A.take i, ∀ b ∈ B, (C a.1 b.1).den ∣ d) ∧ ρ = [some (.val (.tuple (ladV n C))), some (.val (blkV A D1)), some (.val (blkV B D2)), some (.val (.int (d : Int))), none, none, none, none, none, none, none, none, none, none]) (A.map iw) ?_ ?_ ?_
  · walk_at "rl"
    exact ⟨1, by decide, by decide, fun b h => absurd h (by rw [List.take_zero]; exact List.not_mem_nil), rfl⟩
  · rintro i hi _ ⟨d, h0, h1, h2, rfl⟩
    rw [List.length_map] at hi
    have e0 : (A.map iw)[i]'(by rw [List.length_map]; exact hi) = iw A[i] := by simp
    obtain ⟨b1, b2⟩ := hA.mem _ (List.getElem_mem hi)
    have ht := List.take_succ_eq_append_getElem hi
    rw [e0]
    generalize A[i] = y at *
    obtain ⟨x, t⟩ := y
    dsimp only at b1 b2
    unfold l2_law_met
    walk_at "rl"
    refine den_loop hC b1 hB hl h0 (by omega) h1 fun d' g0 g1 g2 g3 => ?_
    walk_at "rl"
    refine ⟨d', g0, g1, fun a ha => ?_, rfl⟩
    rw [ht] at ha
    rcases List.mem_append.mp ha with ha | ha
    · exact fun b hb => Nat.dvd_trans (h2 a ha b hb) g2
    · rw [List.mem_singleton.mp ha]
      exact g3
  · rintro _ ⟨d, h0, h1, h2, rfl⟩
    rw [List.length_map] at h1 h2
    rw [List.take_length] at h2
    have hdb : d ≤ 2 ^ 1552 := Nat.le_trans h1 (Nat.pow_le_pow_right (by decide) (by omega))
    walk_at "rl"
    refine wp_forL (fun i ρ => ∃ L : List (Nat × Int), (i = 0 → L = []) ∧ (i = 1 → L.length = A.length ∧ sideOk C A B D1 D2 d A.length L) ∧ (i = 2 → L.length = A.length + B.length ∧ vw L (D1 * D2 * d) = duel C (vw A D1) (vw B D2)) ∧ (∀ z ∈ L, z.1 < n ∧ z.2.natAbs < 2 ^ (2 * bt + 1660)) ∧ ρ = [some (.val (.tuple (ladV n C))), some (.val (blkV A D1)), some (.val (blkV B D2)), some (.val (.int (d : Int))), none, none, some (.own (.lst (L.map iw))), none, none, none, none, none, none, none]) [.tuple [blkV A D1, blkV B D2], .tuple [blkV B D2, blkV A D1]] ?_ ?_ ?_
    · walk_at "rl"
      exact ⟨[], fun _ => rfl, fun z => by omega, fun z => by omega, fun z h => absurd h List.not_mem_nil, rfl⟩
    · rintro i hi _ ⟨L, g0, g1, g2, g3, rfl⟩
      unfold l5_law_met
      have hi2 : i < 2 := hi
      obtain rfl | rfl : i = 0 ∨ i = 1 := by omega
      · obtain rfl := g0 rfl
        dsimp only [List.getElem_cons_zero]
        walk_at "rl"
        refine side_met (L0 := []) hC hA hB hl1 hl hbt h0 hdb h2 (by simp) fun M m1 m2 m3 => ?_
        walk_at "rl"
        exact ⟨M, fun z => by omega, fun _ => ⟨m1, m3⟩, fun z => by omega, m2, by rw [List.nil_append]⟩
      · obtain ⟨k1, k2⟩ := g1 rfl
        dsimp only [List.getElem_cons_succ, List.getElem_cons_zero]
        walk_at "rl"
        refine side_met (d := d) (L0 := L) hC hB hA hl hl1 hbt h0 hdb ?_ (by omega) fun M m1 m2 m3 => ?_
        · intro b hb a ha
          have e := hC.two _ (hA.mem a ha).1 _ (hB.mem b hb).1 (hne a ha b hb)
          rw [show C b.1 a.1 = 1 - C a.1 b.1 by grind]
          exact den_one (h2 a ha b hb)
        walk_at "rl"
        refine ⟨L ++ M, fun z => by omega, fun z => by omega, fun _ => ⟨by rw [List.length_append]; omega, ?_⟩, fun z hz => ?_, rfl⟩
        · unfold sideOk at k2 m3
          rw [List.take_length] at k2 m3
          rw [Int.mul_comm D2 D1] at m3
          rw [vw_app, k2, m3]
          rfl
        · exact (List.mem_append.mp hz).elim (g3 z) (m2 z)
    · rintro _ ⟨L, g0, g1, g2, g3, rfl⟩
      obtain ⟨k1, k2⟩ := g2 rfl
      walk_at "rl"
      refine opq rfl rfl (ev_mul (mulOk_of _ _ hA.bits hB.bits (by omega))) ?_
      have p1 := natAbs_mul_lt hA.bits hB.bits
      have p2 : ((d : Nat) : Int).natAbs < 2 ^ 1553 := by rw [Int.natAbs_natCast]; exact Nat.lt_of_le_of_lt hdb (Nat.pow_lt_pow_right (by decide) (by decide))
      walk_at "rl"
      refine opq rfl rfl (ev_mul (mulOk_of _ _ p1 p2 (by omega))) ?_
      walk_at "rl"
      refine q L _ ⟨g3, Int.mul_pos (Int.mul_pos hA.pos hB.pos) (by omega), ?_⟩ k1 k2
      rw [show 2 * bd + 1553 = bd + bd + 1553 by omega]
      exact natAbs_mul_lt p1 p2
end
end Py
namespace Py
open PySem D
local macro_rules
  | `(tactic| walk_at "w") => `(tactic| with_reducible first
    | refine seq_nx ?_ | refine seq_rt ?_ | refine seq_bk ?_ | refine seq_ct ?_ | refine wp_seq ?_ | refine wp_asg ?_ | refine wp_next ?_ | refine wp_ret ?_ | refine wp_retN ?_ | refine wp_brk ?_ | refine wp_cont ?_ | refine wp_expr ?_ | refine wp_op ?_ | refine wp_un ?_ | refine wp_c ?_
    | refine unB ?_ | refine wp_truB ?_ | refine wp_and ?_ | refine wp_or ?_ | refine wp_not ?_ | refine wp_ifE ?_ | refine wp_tup ?_ | refine wp_lst ?_ | refine wp_lcons ?_ | refine wp_lnil ?_ | refine frzV ?_ | refine frzN ?_ | refine wp_frz ?_ | refine wp_sl ?_ | refine wp_onone ?_ | refine wp_osome ?_
    | refine wp_anil ?_ | refine wp_av ?_ | refine wp_andV ?_ | refine wp_orV ?_ | refine wp_notV ?_ | refine wp_fgtR ?_ | refine turn_nx ?_ | refine turn_rt ?_ | refine turn_bk ?_ | refine turn_ct ?_ | refine fgt_rt ?_ | refine wp_par ?_ | refine wp_chain ?_ | refine wp_seqI ?_)
local macro_rules
  | `(tactic| walk_at "put") => `(tactic| focus ((repeat apply PutR.s); first | exact PutR.z rfl | exact PutR.z (by assumption)))
local macro_rules
  | `(tactic| walk_at "set") => `(tactic| focus ((repeat apply SetR.s); first | exact SetR.o | exact SetR.r))
local macro_rules
  | `(tactic| walk_at "fgt") => `(tactic| focus (repeat first | exact FgtsR.nil | exact FgtR.k | exact FgtR.z rfl | exact FgtR.z (by assumption) | apply FgtR.s | apply FgtsR.cons))
local macro_rules
  | `(tactic| walk_at "x") => `(tactic| first
    | ((with_reducible apply wp_varV); (focus exact rfl)) | ((with_reducible apply wp_varO); (focus exact rfl)) | ((with_reducible apply wp_varR); (focus exact rfl))
    | ((with_reducible apply opq); (focus exact rfl); (focus exact rfl); (focus (first | exact ev_eqI | exact ev_neI | exact ev_ltI | exact ev_leI | exact ev_gtI | exact ev_geI | exact ev_in2 | exact ev_in2n | exact ev_in4n | exact ev_isT | exact ev_isF | exact ev_isnT | exact ev_isnF | exact ev_eqQ0 | exact ev_eqQ1 | exact ev_eqQ | exact ev_neQ | exact ev_strT | exact ev_strF n1 | exact ev_strF n2 | exact ev_strF n3 | exact ev_strF n4 | exact ev_strF n5 | exact ev_strF n6 | exact rfl)))
    | ((with_reducible apply unq); (focus exact rfl); (focus exact rfl))
    | ((with_reducible first | apply putqV | apply putqN); walk_at "put")
    | ((with_reducible apply putqB); (focus exact rfl); (focus exact rfl); walk_at "put"; walk_at "put")
    | ((with_reducible apply putq2); walk_at "put"; walk_at "put")
    | ((with_reducible apply parq); walk_at "put"; walk_at "put")
    | ((with_reducible apply wp_callR); (focus (repeat first | exact RefsR.nil | apply RefsR.v | apply RefsR.r)); (focus decide))
    | ((with_reducible apply wp_ar); (focus exact rfl))
    | ((with_reducible apply fin_rt); (focus exact rfl); (focus exact rfl))
    | ((with_reducible apply fin_nx); (focus exact rfl))
    | ((with_reducible apply wp_appendR); (focus exact rfl))
    | (with_reducible refine ⟨_, rfl, ?_⟩) | (with_reducible refine ⟨_, .inl rfl, ?_⟩) | (with_reducible refine ⟨_, .inr (.inl rfl), ?_⟩) | (with_reducible refine ⟨_, .inr (.inr rfl), ?_⟩)
    | (with_reducible apply callq0) | ((with_reducible apply frzB); (focus exact rfl); (focus exact rfl); walk_at "put")
    | ((with_reducible apply callq1); walk_at "set")
    | ((with_reducible apply callq2); walk_at "set"; walk_at "set")
    | ((with_reducible first | apply fgt_nx | apply fgt_bk | apply fgt_ct); walk_at "fgt")
    | ((with_reducible apply brT); (focus exact rfl)) | ((with_reducible apply brF); (focus exact rfl)))
local macro_rules
  | `(tactic| walk_at "r") => `(tactic| repeat first | walk_at "w" | walk_at "x")
local macro_rules
  | `(tactic| walk_at "ri") => `(tactic| repeat first | walk_at "w" | walk_at "x" | (with_reducible refine wp_if ?_))
local macro_rules
  | `(tactic| walk_at "app") => `(tactic| ((with_reducible apply appq); (focus exact rfl); (focus ((try simp only [List.length_map, List.length_nil, List.length_cons, List.length_append]); unfold line; omega)); walk_at "set"))
local macro_rules
  | `(tactic| walk_at "mul") => `(tactic| ((refine opq rfl rfl (ev_mul ?_) ?_); (focus (apply mulT <;> omega))))
local macro_rules
  | `(tactic| walk_at "rm") => `(tactic| repeat first | walk_at "w" | walk_at "x" | walk_at "mul")
local macro_rules
  | `(tactic| walk_at "len") => `(tactic| (refine And.intro ?_ ?_; (focus (simp [line]; done))))
local macro_rules
  | `(tactic| walk_at "rl") => `(tactic| repeat first | walk_at "w" | walk_at "x" | walk_at "len")
local macro_rules
  | `(tactic| walk_at "ril") => `(tactic| repeat first | walk_at "w" | walk_at "x" | walk_at "len" | (with_reducible refine wp_if ?_))
/-! QAg: the law's winners, and what is due. -/
def seg (r j : Nat) (ps : List Nat) : List Nat := (ps.drop (j * 2 ^ r)).take (2 ^ r)
abbrev bkV (z : List (Nat × Int) × Int) : PV := blkV z.1 z.2
def btR : Nat → Nat
  | 0 => 1
  | r + 1 => 2 * btR r + 1660
def bdR : Nat → Nat
  | 0 => 1
  | r + 1 => 2 * bdR r + 1553
structure GoodB (n : Nat) (C : Nat → Nat → Rat) (ps : List Nat) (r j : Nat) (z : List (Nat × Int) × Int) : Prop where
  blk : Blk n (btR r) (bdR r) z.1 z.2
  val : vw z.1 z.2 = (mkT r (seg r j ps)).wl C
  len : z.1.length = 2 ^ r
def Round (n : Nat) (C : Nat → Nat → Rat) (ps : List Nat) (r : Nat) (Bs : List (List (Nat × Int) × Int)) : Prop := ∀ j (h : j < Bs.length), GoodB n C ps r j Bs[j]
section
variable {Q : R → List Ob → Prop} {n k : Nat} {C : Nat → Nat → Rat} {ps : List Nat} {ns ds : List Int}
theorem seg_take {r j : Nat} : (seg (r + 1) j ps).take (2 ^ r) = seg r (2 * j) ps := by
  unfold seg
  rw [List.take_take, Nat.min_eq_left (Nat.pow_le_pow_right (by decide) (by omega)), Nat.pow_succ]
  congr 2
  rw [Nat.mul_comm (2 ^ r) 2, ← Nat.mul_assoc, Nat.mul_comm j 2]
theorem seg_drop {r j : Nat} : (seg (r + 1) j ps).drop (2 ^ r) = seg r (2 * j + 1) ps := by
  unfold seg
  rw [List.drop_take, List.drop_drop, Nat.pow_succ, show 2 ^ r * 2 - 2 ^ r = 2 ^ r by omega]
  congr 2
  rw [Nat.mul_comm (2 ^ r) 2, ← Nat.mul_assoc, Nat.mul_comm j 2, Nat.add_mul, Nat.one_mul]
theorem seg_len {r j : Nat} (h : (j + 1) * 2 ^ r ≤ ps.length) : (seg r j ps).length = 2 ^ r := by
  unfold seg
  rw [Nat.add_mul, Nat.one_mul] at h
  rw [List.length_take, List.length_drop]
  omega
theorem vw_fst {L : List (Nat × Int)} {d : Int} : (vw L d).map (·.1) = L.map (·.1) := by
  unfold vw
  rw [List.map_map]
  rfl
theorem good_fst {r j : Nat} {z : List (Nat × Int) × Int} (h : GoodB n C ps r j z) (hl : (j + 1) * 2 ^ r ≤ ps.length) : z.1.map (·.1) = seg r j ps := by
  rw [← vw_fst (d := z.2), h.val, wl_fst, mk_pl (seg_len hl)]
theorem good_up {r j : Nat} {x y : List (Nat × Int) × Int} {L : List (Nat × Int)} {d : Int} (h1 : GoodB n C ps r (2 * j) x) (h2 : GoodB n C ps r (2 * j + 1) y) (hb : Blk n (btR (r + 1)) (bdR (r + 1)) L d) (hl : L.length = x.1.length + y.1.length) (hv : vw L d = duel C (vw x.1 x.2) (vw y.1 y.2)) : GoodB n C ps (r + 1) j (L, d) := by
  refine ⟨hb, ?_, ?_⟩
  · dsimp only
    rw [hv, h1.val, h2.val, mkT, Tr.wl, seg_take, seg_drop]
  · dsimp only
    rw [hl, h1.len, h2.len, Nat.pow_succ]
    omega
theorem good_ne {r j : Nat} {x y : List (Nat × Int) × Int} (h1 : GoodB n C ps r (2 * j) x) (h2 : GoodB n C ps r (2 * j + 1) y) (hl : (j + 1) * 2 ^ (r + 1) ≤ ps.length) (hn : ps.Nodup) : ∀ a ∈ x.1, ∀ b ∈ y.1, a.1 ≠ b.1 := by
  intro a ha b hb
  have e0 : (j + 1) * 2 ^ (r + 1) = (2 * j + 1 + 1) * 2 ^ r := by
    rw [Nat.pow_succ, Nat.mul_comm (2 ^ r) 2, ← Nat.mul_assoc]
    congr 1
    omega
  have e1 : (2 * j + 1) * 2 ^ r ≤ (2 * j + 1 + 1) * 2 ^ r := Nat.mul_le_mul_right _ (by omega)
  have f1 := good_fst h1 (by omega)
  have f2 := good_fst h2 (by omega)
  have h := List.take_append_drop (2 ^ r) (seg (r + 1) j ps)
  rw [seg_take, seg_drop] at h
  have hs : (seg (r + 1) j ps).Nodup := by
    unfold seg
    exact ((List.take_sublist _ _).trans (List.drop_sublist _ _)).nodup hn
  rw [← h, List.nodup_append] at hs
  exact hs.2.2 a.1 (f1 ▸ List.mem_map.mpr ⟨a, ha, rfl⟩) b.1 (f2 ▸ List.mem_map.mpr ⟨b, hb, rfl⟩)
theorem round_loop {r m : Nat} {Bs : List (List (Nat × Int) × Int)} {v2 : Sl} {v3 : PV} {QS : Fl → Env → Prop} (hv2 : v2 = .own (.lst (Bs.map bkV)) ∨ v2 = .val (.list (Bs.map bkV))) (hC : Lad n 97 C) (hn : ps.Nodup) (hl : ps.length = 2 * m * 2 ^ r) (hm : Bs.length = 2 * m) (h8 : m ≤ 4) (hr : r ≤ 2) (hB : Round n C ps r Bs)
    (q : ∀ Bs', Bs'.length = m → Round n C ps (r + 1) Bs' → QS .nx [some (.val (.tuple (ladV n C))), some (.val (.tuple (ps.map natI))), some v2, some (.val v3), some (.own (.lst (Bs'.map bkV))), none, none]) :
    Wp (sFor (Py.iRng1 (mOp fDiv (mUn fLen (mVar 2)) (mC (.int 2)))) (Py.gName 5) l2_law_winners) [some (.val (.tuple (ladV n C))), some (.val (.tuple (ps.map natI))), some v2, some (.val v3), some (.own (.lst [])), none, none] QS := by
  have hln : (line : Nat) = 16777216 := rfl
  have hbt : btR r ≤ 100000 ∧ bdR r ≤ 100000 ∧ 2 ^ r ≤ 4 := by
    have : ∀ r, r ≤ 2 → btR r ≤ 100000 ∧ bdR r ≤ 100000 ∧ 2 ^ r ≤ 4 := by decide
    exact this r hr
  refine wp_forN (fun j ρ => ∃ Bs', Bs'.length = j ∧ Round n C ps (r + 1) Bs' ∧ ρ = [some (.val (.tuple (ladV n C))), some (.val (.tuple (ps.map natI))), some v2, some (.val v3), some (.own (.lst (Bs'.map bkV))), none, none]) m ?_ ?_ ?_
  · have ef : ((2 * m : Nat) : Int).fdiv 2 = (m : Int) := by rw [Int.fdiv_eq_ediv_of_nonneg _ (by decide)]; omega
    rcases hv2 with rfl | rfl
    all_goals
      walk_at "rl"
      rw [List.length_map, hm, ef]
      exact ⟨rfl, by omega, [], rfl, fun j h => absurd h (Nat.not_lt_zero _), rfl⟩
  · rintro j _ hj ⟨Bs', g1, g2, rfl⟩
    have i1 : 2 * j < Bs.length := by omega
    have i2 : 2 * j + 1 < Bs.length := by omega
    have b1 := hB _ i1
    have b2 := hB _ i2
    have a1 : (Bs.map bkV)[2 * j]? = some (bkV Bs[2 * j]) := by simp [i1]
    have a2 : (Bs.map bkV)[2 * j + 1]? = some (bkV Bs[2 * j + 1]) := by simp [i2]
    have ej : (2 : Int) * (j : Int) = ((2 * j : Nat) : Int) := by omega
    have ej2 : ((2 * j : Nat) : Int) + 1 = ((2 * j + 1 : Nat) : Int) := by omega
    have hll : (j + 1) * 2 ^ (r + 1) ≤ ps.length := by
      rw [hl, Nat.pow_succ, Nat.mul_comm (2 ^ r) 2, ← Nat.mul_assoc]
      exact Nat.mul_le_mul_right _ (by omega)
    have hne := good_ne b1 b2 hll hn
    have l1 := b1.len
    have l2 := b2.len
    unfold l2_law_winners
    rcases hv2 with rfl | rfl
    all_goals
      walk_at "rl"
      refine opq rfl rfl (ev_mul (mulOk_of 2 10 (by decide) (by omega))) ?_
      rw [ej]
      walk_at "rl"
      first
        | refine opq rfl rfl (ev_ix (a := ((2 * j : Nat) : Int)) (.inr (.inr rfl)) (atI_nat a1)) ?_
        | refine opq rfl rfl (ev_ix (a := ((2 * j : Nat) : Int)) (.inr (.inl rfl)) (atI_nat a1)) ?_
      walk_at "rl"
      refine opq rfl rfl (ev_mul (mulOk_of 2 10 (by decide) (by omega))) ?_
      rw [ej]
      walk_at "rl"
      rw [ej2]
      first
        | refine opq rfl rfl (ev_ix (a := ((2 * j + 1 : Nat) : Int)) (.inr (.inr rfl)) (atI_nat a2)) ?_
        | refine opq rfl rfl (ev_ix (a := ((2 * j + 1 : Nat) : Int)) (.inr (.inl rfl)) (atI_nat a2)) ?_
      walk_at "rl"
      refine of_met hC b1.blk b2.blk hne (by omega) (by omega) (by omega) (by omega) fun L d hb hlen hval => ?_
      walk_at "rl"
      apply appq (xs := Bs'.map bkV) rfl (by simp; omega)
      walk_at "set"
      walk_at "rl"
      refine ⟨Bs' ++ [(L, d)], by simp [g1], ?_, by rw [List.map_append]; rfl⟩
      intro j' h'
      rw [List.length_append, List.length_singleton, g1] at h'
      by_cases c : j' < j
      · rw [List.getElem_append_left (by omega)]
        exact g2 j' (by omega)
      · have : j' = j := by omega
        subst this
        rw [List.getElem_append_right (by omega)]
        simp only [g1, Nat.sub_self, List.getElem_singleton]
        exact good_up b1 b2 hb hlen hval
  · rintro _ ⟨Bs', g1, g2, rfl⟩
    exact q Bs' g1 g2
end
end Py
namespace Py
open PySem D
local macro_rules
  | `(tactic| walk_at "w") => `(tactic| with_reducible first
    | refine seq_nx ?_ | refine seq_rt ?_ | refine seq_bk ?_ | refine seq_ct ?_ | refine wp_seq ?_ | refine wp_asg ?_ | refine wp_next ?_ | refine wp_ret ?_ | refine wp_retN ?_ | refine wp_brk ?_ | refine wp_cont ?_ | refine wp_expr ?_ | refine wp_op ?_ | refine wp_un ?_ | refine wp_c ?_
    | refine unB ?_ | refine wp_truB ?_ | refine wp_and ?_ | refine wp_or ?_ | refine wp_not ?_ | refine wp_ifE ?_ | refine wp_tup ?_ | refine wp_lst ?_ | refine wp_lcons ?_ | refine wp_lnil ?_ | refine frzV ?_ | refine frzN ?_ | refine wp_frz ?_ | refine wp_sl ?_ | refine wp_onone ?_ | refine wp_osome ?_
    | refine wp_anil ?_ | refine wp_av ?_ | refine wp_andV ?_ | refine wp_orV ?_ | refine wp_notV ?_ | refine wp_fgtR ?_ | refine turn_nx ?_ | refine turn_rt ?_ | refine turn_bk ?_ | refine turn_ct ?_ | refine fgt_rt ?_ | refine wp_par ?_ | refine wp_chain ?_ | refine wp_seqI ?_)
local macro_rules
  | `(tactic| walk_at "put") => `(tactic| focus ((repeat apply PutR.s); first | exact PutR.z rfl | exact PutR.z (by assumption)))
local macro_rules
  | `(tactic| walk_at "set") => `(tactic| focus ((repeat apply SetR.s); first | exact SetR.o | exact SetR.r))
local macro_rules
  | `(tactic| walk_at "fgt") => `(tactic| focus (repeat first | exact FgtsR.nil | exact FgtR.k | exact FgtR.z rfl | exact FgtR.z (by assumption) | apply FgtR.s | apply FgtsR.cons))
local macro_rules
  | `(tactic| walk_at "x") => `(tactic| first
    | ((with_reducible apply wp_varV); (focus exact rfl)) | ((with_reducible apply wp_varO); (focus exact rfl)) | ((with_reducible apply wp_varR); (focus exact rfl))
    | ((with_reducible apply opq); (focus exact rfl); (focus exact rfl); (focus (first | exact ev_eqI | exact ev_neI | exact ev_ltI | exact ev_leI | exact ev_gtI | exact ev_geI | exact ev_in2 | exact ev_in2n | exact ev_in4n | exact ev_isT | exact ev_isF | exact ev_isnT | exact ev_isnF | exact ev_eqQ0 | exact ev_eqQ1 | exact ev_eqQ | exact ev_neQ | exact ev_strT | exact ev_strF n1 | exact ev_strF n2 | exact ev_strF n3 | exact ev_strF n4 | exact ev_strF n5 | exact ev_strF n6 | exact rfl)))
    | ((with_reducible apply unq); (focus exact rfl); (focus exact rfl))
    | ((with_reducible first | apply putqV | apply putqN); walk_at "put")
    | ((with_reducible apply putqB); (focus exact rfl); (focus exact rfl); walk_at "put"; walk_at "put")
    | ((with_reducible apply putq2); walk_at "put"; walk_at "put")
    | ((with_reducible apply parq); walk_at "put"; walk_at "put")
    | ((with_reducible apply wp_callR); (focus (repeat first | exact RefsR.nil | apply RefsR.v | apply RefsR.r)); (focus decide))
    | ((with_reducible apply wp_ar); (focus exact rfl))
    | ((with_reducible apply fin_rt); (focus exact rfl); (focus exact rfl))
    | ((with_reducible apply fin_nx); (focus exact rfl))
    | ((with_reducible apply wp_appendR); (focus exact rfl))
    | (with_reducible refine ⟨_, rfl, ?_⟩) | (with_reducible refine ⟨_, .inl rfl, ?_⟩) | (with_reducible refine ⟨_, .inr (.inl rfl), ?_⟩) | (with_reducible refine ⟨_, .inr (.inr rfl), ?_⟩)
    | (with_reducible apply callq0) | ((with_reducible apply frzB); (focus exact rfl); (focus exact rfl); walk_at "put")
    | ((with_reducible apply callq1); walk_at "set")
    | ((with_reducible apply callq2); walk_at "set"; walk_at "set")
    | ((with_reducible first | apply fgt_nx | apply fgt_bk | apply fgt_ct); walk_at "fgt")
    | ((with_reducible apply brT); (focus exact rfl)) | ((with_reducible apply brF); (focus exact rfl)))
local macro_rules
  | `(tactic| walk_at "r") => `(tactic| repeat first | walk_at "w" | walk_at "x")
local macro_rules
  | `(tactic| walk_at "ri") => `(tactic| repeat first | walk_at "w" | walk_at "x" | (with_reducible refine wp_if ?_))
local macro_rules
  | `(tactic| walk_at "app") => `(tactic| ((with_reducible apply appq); (focus exact rfl); (focus ((try simp only [List.length_map, List.length_nil, List.length_cons, List.length_append]); unfold line; omega)); walk_at "set"))
local macro_rules
  | `(tactic| walk_at "mul") => `(tactic| ((refine opq rfl rfl (ev_mul ?_) ?_); (focus (apply mulT <;> omega))))
local macro_rules
  | `(tactic| walk_at "rm") => `(tactic| repeat first | walk_at "w" | walk_at "x" | walk_at "mul")
local macro_rules
  | `(tactic| walk_at "len") => `(tactic| (refine And.intro ?_ ?_; (focus (simp [line]; done))))
local macro_rules
  | `(tactic| walk_at "rl") => `(tactic| repeat first | walk_at "w" | walk_at "x" | walk_at "len")
local macro_rules
  | `(tactic| walk_at "ril") => `(tactic| repeat first | walk_at "w" | walk_at "x" | walk_at "len" | (with_reducible refine wp_if ?_))
/-! QAh: the law's winners, and what is due. -/
section
variable {Q : R → List Ob → Prop} {n k : Nat} {C : Nat → Nat → Rat} {ps : List Nat} {ns ds : List Int}
theorem of_law_winners (hC : Lad n 97 C) (hk : k ≤ 3) (hl : ps.length = 2 ^ k) (hp : ∀ p ∈ ps, p < n) (hn : ps.Nodup) (q : ∀ L d, GoodB n C ps k 0 (L, d) → Q (.val (blkV L d)) []) : Ret d_law_winners [.val (.tuple (ladV n C)), .val (.tuple (ps.map natI))] Q := by
  have hln : (line : Nat) = 16777216 := rfl
  have h8 : 2 ^ k ≤ 8 := Nat.pow_le_pow_right (n := 2) (by decide) hk
  refine ret_mkR (by repeat constructor) ?_
  unfold b_law_winners
  walk_at "rl"
  refine wp_lcS (ρ1 := [some (.val (.tuple (ladV n C))), some (.val (.tuple (ps.map natI))), none, none, none, none, none]) (ps.map natI) (fun j => bkV ([(ps.getD j 0, 1)], 1)) (by simp) (by rw [List.length_map]; omega) ?_ ?_ ?_
  · walk_at "rl"
    first | rfl | exact ⟨.inr (.inl rfl), rfl⟩
  · intro j hj
    have hj' : j < ps.length := by simpa using hj
    have e : (ps.map natI)[j] = natI (ps.getD j 0) := by simp [hj']
    rw [e]
    dsimp only [set_s, set_z]
    unfold e1_law_winners
    walk_at "rl"
    exact ⟨rfl, rfl⟩
  have e0 : ((List.range (ps.map natI).length).map fun j => bkV ([(ps.getD j 0, 1)], 1)) = (ps.map fun p => ([(p, (1 : Int))], (1 : Int))).map bkV := by
    rw [List.map_map]
    refine List.ext_getElem (by simp) fun i h1 h2 => ?_
    have hi : i < ps.length := by simpa using h2
    simp [hi]
  rw [e0]
  have hR : Round n C ps 0 (ps.map fun p => ([(p, (1 : Int))], (1 : Int))) := fun j hj => by
    have hj' : j < ps.length := by simpa using hj
    simp only [List.getElem_map]
    refine ⟨⟨fun z hz => ?_, show (0 : Int) < 1 by decide, show (1 : Int).natAbs < 2 ^ 1 by decide⟩, ?_, rfl⟩
    · rw [List.mem_singleton.mp hz]
      exact ⟨hp _ (List.getElem_mem hj'), show (1 : Int).natAbs < 2 ^ 1 by decide⟩
    · show [(ps[j], ((1 : Int) : Rat) / ((1 : Int) : Rat))] = [((seg 0 j ps).getD 0 0, 1)]
      have e1 : (seg 0 j ps).getD 0 0 = ps[j] := by
        unfold seg
        rw [Nat.pow_zero, Nat.mul_one, List.drop_eq_getElem_cons hj']
        rfl
      rw [e1]
      congr 2
      rw [Rat.intCast_one]
      grind
  walk_at "rl"
  refine wp_forN (fun i ρ => ∃ Bs v2, (v2 = Sl.own (.lst (Bs.map bkV)) ∨ v2 = Sl.val (.list (Bs.map bkV))) ∧ Bs.length = 2 ^ (k - i) ∧ Round n C ps (min i k) Bs ∧ ρ = [some (.val (.tuple (ladV n C))), some (.val (.tuple (ps.map natI))), some v2, none, none, none, none]) 3 ?_ ?_ ?_
  · walk_at "rl"
    exact ⟨rfl, by omega, _, _, .inl rfl, by rw [List.length_map, hl, Nat.sub_zero], by rw [Nat.zero_min]; exact hR, rfl⟩
  · rintro i _ hi ⟨Bs, v2, hv2, g1, g2, rfl⟩
    unfold l3_law_winners
    by_cases c : i < k
    · have hm : Bs.length = 2 * 2 ^ (k - (i + 1)) := by
        rw [g1, show k - i = (k - (i + 1)) + 1 by omega, Nat.pow_succ]
        omega
      have h1 := Nat.two_pow_pos (k - (i + 1))
      have h4 : 2 ^ (k - (i + 1)) ≤ 4 := Nat.pow_le_pow_right (n := 2) (by decide) (show k - (i + 1) ≤ 2 by omega)
      rw [Nat.min_eq_left (by omega)] at g2
      have hll : ps.length = 2 * 2 ^ (k - (i + 1)) * 2 ^ i := by
        rw [hl, Nat.mul_comm 2, ← Nat.pow_succ, ← Nat.pow_add]
        congr 1
        omega
      have key : ∀ QS : Fl → Env → Prop, (∀ Bs', Bs'.length = 2 ^ (k - (i + 1)) → Round n C ps (i + 1) Bs' → QS .nx [some (.val (.tuple (ladV n C))), some (.val (.tuple (ps.map natI))), some v2, some (.val (.int (i : Int))), some (.own (.lst (Bs'.map bkV))), none, none]) → _ := fun QS q => round_loop (v3 := .int (i : Int)) (QS := QS) hv2 hC hn hll hm h4 (by omega) g2 q
      rcases hv2 with rfl | rfl
      all_goals
        walk_at "ril"
        rw [List.length_map, hm, decide_eq_true (by omega)]
        refine ⟨fun _ => ?_, fun z => Bool.noConfusion z⟩
        walk_at "ril"
        refine key _ fun Bs' f1 f2 => ?_
        walk_at "ril"
        exact ⟨Bs', _, .inr rfl, f1, by rw [Nat.min_eq_left (by omega)]; exact f2, rfl⟩
    · have hm : Bs.length = 1 := by rw [g1, show k - i = 0 by omega]
      rw [Nat.min_eq_right (by omega)] at g2
      have g1' : Bs.length = 2 ^ (k - (i + 1)) := by rw [hm, show k - (i + 1) = 0 by omega]
      rcases hv2 with rfl | rfl
      all_goals
        walk_at "ril"
        rw [List.length_map, hm, decide_eq_false (by omega)]
        refine ⟨fun z => Bool.noConfusion z, fun _ => ?_⟩
        walk_at "ril"
      · exact ⟨Bs, _, .inl rfl, g1', by rw [Nat.min_eq_right (by omega)]; exact g2, rfl⟩
      · exact ⟨Bs, _, .inr rfl, g1', by rw [Nat.min_eq_right (by omega)]; exact g2, rfl⟩
  · rintro _ ⟨Bs, v2, hv2, g1, g2, rfl⟩
    have hm : Bs.length = 1 := by rw [g1, show k - 3 = 0 by omega]
    rw [Nat.min_eq_right (by omega)] at g2
    match Bs, hm, g2, hv2 with
    | [(L, d)], _, g2, hv2 =>
      have hg := g2 0 (show 0 < [(L, d)].length from Nat.zero_lt_one)
      rcases hv2 with rfl | rfl
      all_goals
        walk_at "rl"
        exact q L d hg
end
end Py
namespace Py
open PySem D
local macro_rules
  | `(tactic| walk_at "w") => `(tactic| with_reducible first
    | refine seq_nx ?_ | refine seq_rt ?_ | refine seq_bk ?_ | refine seq_ct ?_ | refine wp_seq ?_ | refine wp_asg ?_ | refine wp_next ?_ | refine wp_ret ?_ | refine wp_retN ?_ | refine wp_brk ?_ | refine wp_cont ?_ | refine wp_expr ?_ | refine wp_op ?_ | refine wp_un ?_ | refine wp_c ?_
    | refine unB ?_ | refine wp_truB ?_ | refine wp_and ?_ | refine wp_or ?_ | refine wp_not ?_ | refine wp_ifE ?_ | refine wp_tup ?_ | refine wp_lst ?_ | refine wp_lcons ?_ | refine wp_lnil ?_ | refine frzV ?_ | refine frzN ?_ | refine wp_frz ?_ | refine wp_sl ?_ | refine wp_onone ?_ | refine wp_osome ?_
    | refine wp_anil ?_ | refine wp_av ?_ | refine wp_andV ?_ | refine wp_orV ?_ | refine wp_notV ?_ | refine wp_fgtR ?_ | refine turn_nx ?_ | refine turn_rt ?_ | refine turn_bk ?_ | refine turn_ct ?_ | refine fgt_rt ?_ | refine wp_par ?_ | refine wp_chain ?_ | refine wp_seqI ?_)
local macro_rules
  | `(tactic| walk_at "put") => `(tactic| focus ((repeat apply PutR.s); first | exact PutR.z rfl | exact PutR.z (by assumption)))
local macro_rules
  | `(tactic| walk_at "set") => `(tactic| focus ((repeat apply SetR.s); first | exact SetR.o | exact SetR.r))
local macro_rules
  | `(tactic| walk_at "fgt") => `(tactic| focus (repeat first | exact FgtsR.nil | exact FgtR.k | exact FgtR.z rfl | exact FgtR.z (by assumption) | apply FgtR.s | apply FgtsR.cons))
local macro_rules
  | `(tactic| walk_at "x") => `(tactic| first
    | ((with_reducible apply wp_varV); (focus exact rfl)) | ((with_reducible apply wp_varO); (focus exact rfl)) | ((with_reducible apply wp_varR); (focus exact rfl))
    | ((with_reducible apply opq); (focus exact rfl); (focus exact rfl); (focus (first | exact ev_eqI | exact ev_neI | exact ev_ltI | exact ev_leI | exact ev_gtI | exact ev_geI | exact ev_in2 | exact ev_in2n | exact ev_in4n | exact ev_isT | exact ev_isF | exact ev_isnT | exact ev_isnF | exact ev_eqQ0 | exact ev_eqQ1 | exact ev_eqQ | exact ev_neQ | exact ev_strT | exact ev_strF n1 | exact ev_strF n2 | exact ev_strF n3 | exact ev_strF n4 | exact ev_strF n5 | exact ev_strF n6 | exact rfl)))
    | ((with_reducible apply unq); (focus exact rfl); (focus exact rfl))
    | ((with_reducible first | apply putqV | apply putqN); walk_at "put")
    | ((with_reducible apply putqB); (focus exact rfl); (focus exact rfl); walk_at "put"; walk_at "put")
    | ((with_reducible apply putq2); walk_at "put"; walk_at "put")
    | ((with_reducible apply parq); walk_at "put"; walk_at "put")
    | ((with_reducible apply wp_callR); (focus (repeat first | exact RefsR.nil | apply RefsR.v | apply RefsR.r)); (focus decide))
    | ((with_reducible apply wp_ar); (focus exact rfl))
    | ((with_reducible apply fin_rt); (focus exact rfl); (focus exact rfl))
    | ((with_reducible apply fin_nx); (focus exact rfl))
    | ((with_reducible apply wp_appendR); (focus exact rfl))
    | (with_reducible refine ⟨_, rfl, ?_⟩) | (with_reducible refine ⟨_, .inl rfl, ?_⟩) | (with_reducible refine ⟨_, .inr (.inl rfl), ?_⟩) | (with_reducible refine ⟨_, .inr (.inr rfl), ?_⟩)
    | (with_reducible apply callq0) | ((with_reducible apply frzB); (focus exact rfl); (focus exact rfl); walk_at "put")
    | ((with_reducible apply callq1); walk_at "set")
    | ((with_reducible apply callq2); walk_at "set"; walk_at "set")
    | ((with_reducible first | apply fgt_nx | apply fgt_bk | apply fgt_ct); walk_at "fgt")
    | ((with_reducible apply brT); (focus exact rfl)) | ((with_reducible apply brF); (focus exact rfl)))
local macro_rules
  | `(tactic| walk_at "r") => `(tactic| repeat first | walk_at "w" | walk_at "x")
local macro_rules
  | `(tactic| walk_at "ri") => `(tactic| repeat first | walk_at "w" | walk_at "x" | (with_reducible refine wp_if ?_))
local macro_rules
  | `(tactic| walk_at "app") => `(tactic| ((with_reducible apply appq); (focus exact rfl); (focus ((try simp only [List.length_map, List.length_nil, List.length_cons, List.length_append]); unfold line; omega)); walk_at "set"))
local macro_rules
  | `(tactic| walk_at "mul") => `(tactic| ((refine opq rfl rfl (ev_mul ?_) ?_); (focus (apply mulT <;> omega))))
local macro_rules
  | `(tactic| walk_at "rm") => `(tactic| repeat first | walk_at "w" | walk_at "x" | walk_at "mul")
local macro_rules
  | `(tactic| walk_at "len") => `(tactic| (refine And.intro ?_ ?_; (focus (simp [line]; done))))
local macro_rules
  | `(tactic| walk_at "rl") => `(tactic| repeat first | walk_at "w" | walk_at "x" | walk_at "len")
local macro_rules
  | `(tactic| walk_at "ril") => `(tactic| repeat first | walk_at "w" | walk_at "x" | walk_at "len" | (with_reducible refine wp_if ?_))
/-! QAi: k63's one ladder. -/
section
variable {Q : R → List Ob → Prop} {n k : Nat} {C : Nat → Nat → Rat} {ps : List Nat} {ns ds : List Int}
theorem cutC {xs : List PV} {a : Nat} : cut xs none (some (a : Int)) = xs.take a := by
  unfold cut
  simp only [sIx, if_neg (show ¬ ((a : Int) < 0) by omega), Int.toNat_natCast, List.drop_zero, Nat.sub_zero]
  rw [Nat.min_def]
  split
  · rfl
  · rw [List.take_length, List.take_of_length_le (by omega)]
theorem cutD {xs : List PV} {a : Nat} : cut xs (some (a : Int)) none = xs.drop a := by
  unfold cut
  simp only [sIx, if_neg (show ¬ ((a : Int) < 0) by omega), Int.toNat_natCast]
  rw [Nat.min_def]
  split
  · rw [List.take_of_length_le (by rw [List.length_drop]; exact Nat.le_refl _)]
  · rw [List.drop_length, List.drop_of_length_le (by omega)]
    simp
def swap2 (ps : List Nat) : List Nat := (ps.take 2).reverse ++ ps.drop 2
/-- the chances of the first players together -/
def part (f : Nat → Rat) (i : Nat) : Rat := ((List.range i).map f).sum
theorem nlt_mul {a b : Int} {m n : Nat} (ha : a.natAbs < 2 ^ m) (hb : b.natAbs < 2 ^ n) : (a * b).natAbs < 2 ^ (m + n) := natAbs_mul_lt ha hb
theorem nlt_add {a b : Int} {m : Nat} (ha : a.natAbs < 2 ^ m) (hb : b.natAbs < 2 ^ m) : (a + b).natAbs < 2 ^ (m + 1) := by
  have := Int.natAbs_add_le a b
  rw [Nat.pow_succ]
  omega
theorem nlt_mono {a : Int} {m n : Nat} (ha : a.natAbs < 2 ^ m) (h : m ≤ n) : a.natAbs < 2 ^ n := Nat.lt_of_lt_of_le ha (Nat.pow_le_pow_right (by decide) h)
end
end Py
namespace Py
open PySem D
local macro_rules
  | `(tactic| walk_at "w") => `(tactic| with_reducible first
    | refine seq_nx ?_ | refine seq_rt ?_ | refine seq_bk ?_ | refine seq_ct ?_ | refine wp_seq ?_ | refine wp_asg ?_ | refine wp_next ?_ | refine wp_ret ?_ | refine wp_retN ?_ | refine wp_brk ?_ | refine wp_cont ?_ | refine wp_expr ?_ | refine wp_op ?_ | refine wp_un ?_ | refine wp_c ?_
    | refine unB ?_ | refine wp_truB ?_ | refine wp_and ?_ | refine wp_or ?_ | refine wp_not ?_ | refine wp_ifE ?_ | refine wp_tup ?_ | refine wp_lst ?_ | refine wp_lcons ?_ | refine wp_lnil ?_ | refine frzV ?_ | refine frzN ?_ | refine wp_frz ?_ | refine wp_sl ?_ | refine wp_onone ?_ | refine wp_osome ?_
    | refine wp_anil ?_ | refine wp_av ?_ | refine wp_andV ?_ | refine wp_orV ?_ | refine wp_notV ?_ | refine wp_fgtR ?_ | refine turn_nx ?_ | refine turn_rt ?_ | refine turn_bk ?_ | refine turn_ct ?_ | refine fgt_rt ?_ | refine wp_par ?_ | refine wp_chain ?_ | refine wp_seqI ?_)
local macro_rules
  | `(tactic| walk_at "put") => `(tactic| focus ((repeat apply PutR.s); first | exact PutR.z rfl | exact PutR.z (by assumption)))
local macro_rules
  | `(tactic| walk_at "set") => `(tactic| focus ((repeat apply SetR.s); first | exact SetR.o | exact SetR.r))
local macro_rules
  | `(tactic| walk_at "fgt") => `(tactic| focus (repeat first | exact FgtsR.nil | exact FgtR.k | exact FgtR.z rfl | exact FgtR.z (by assumption) | apply FgtR.s | apply FgtsR.cons))
local macro_rules
  | `(tactic| walk_at "x") => `(tactic| first
    | ((with_reducible apply wp_varV); (focus exact rfl)) | ((with_reducible apply wp_varO); (focus exact rfl)) | ((with_reducible apply wp_varR); (focus exact rfl))
    | ((with_reducible apply opq); (focus exact rfl); (focus exact rfl); (focus (first | exact ev_eqI | exact ev_neI | exact ev_ltI | exact ev_leI | exact ev_gtI | exact ev_geI | exact ev_in2 | exact ev_in2n | exact ev_in4n | exact ev_isT | exact ev_isF | exact ev_isnT | exact ev_isnF | exact ev_eqQ0 | exact ev_eqQ1 | exact ev_eqQ | exact ev_neQ | exact ev_strT | exact ev_strF n1 | exact ev_strF n2 | exact ev_strF n3 | exact ev_strF n4 | exact ev_strF n5 | exact ev_strF n6 | exact rfl)))
    | ((with_reducible apply unq); (focus exact rfl); (focus exact rfl))
    | ((with_reducible first | apply putqV | apply putqN); walk_at "put")
    | ((with_reducible apply putqB); (focus exact rfl); (focus exact rfl); walk_at "put"; walk_at "put")
    | ((with_reducible apply putq2); walk_at "put"; walk_at "put")
    | ((with_reducible apply parq); walk_at "put"; walk_at "put")
    | ((with_reducible apply wp_callR); (focus (repeat first | exact RefsR.nil | apply RefsR.v | apply RefsR.r)); (focus decide))
    | ((with_reducible apply wp_ar); (focus exact rfl))
    | ((with_reducible apply fin_rt); (focus exact rfl); (focus exact rfl))
    | ((with_reducible apply fin_nx); (focus exact rfl))
    | ((with_reducible apply wp_appendR); (focus exact rfl))
    | (with_reducible refine ⟨_, rfl, ?_⟩) | (with_reducible refine ⟨_, .inl rfl, ?_⟩) | (with_reducible refine ⟨_, .inr (.inl rfl), ?_⟩) | (with_reducible refine ⟨_, .inr (.inr rfl), ?_⟩)
    | (with_reducible apply callq0) | ((with_reducible apply frzB); (focus exact rfl); (focus exact rfl); walk_at "put")
    | ((with_reducible apply callq1); walk_at "set")
    | ((with_reducible apply callq2); walk_at "set"; walk_at "set")
    | ((with_reducible first | apply fgt_nx | apply fgt_bk | apply fgt_ct); walk_at "fgt")
    | ((with_reducible apply brT); (focus exact rfl)) | ((with_reducible apply brF); (focus exact rfl)))
local macro_rules
  | `(tactic| walk_at "r") => `(tactic| repeat first | walk_at "w" | walk_at "x")
local macro_rules
  | `(tactic| walk_at "ri") => `(tactic| repeat first | walk_at "w" | walk_at "x" | (with_reducible refine wp_if ?_))
local macro_rules
  | `(tactic| walk_at "app") => `(tactic| ((with_reducible apply appq); (focus exact rfl); (focus ((try simp only [List.length_map, List.length_nil, List.length_cons, List.length_append]); unfold line; omega)); walk_at "set"))
local macro_rules
  | `(tactic| walk_at "mul") => `(tactic| ((refine opq rfl rfl (ev_mul ?_) ?_); (focus (apply mulT <;> omega))))
local macro_rules
  | `(tactic| walk_at "rm") => `(tactic| repeat first | walk_at "w" | walk_at "x" | walk_at "mul")
local macro_rules
  | `(tactic| walk_at "len") => `(tactic| (refine And.intro ?_ ?_; (focus (simp [line]; done))))
local macro_rules
  | `(tactic| walk_at "rl") => `(tactic| repeat first | walk_at "w" | walk_at "x" | walk_at "len")
local macro_rules
  | `(tactic| walk_at "ril") => `(tactic| repeat first | walk_at "w" | walk_at "x" | walk_at "len" | (with_reducible refine wp_if ?_))
/-! QLa: chances to meet, plain. -/
def meetQ (C : Nat → Nat → Rat) (a b : Nat) : Nat → List Nat → Rat
  | 0, _ => 0
  | k + 1, ps => if a ∈ ps.take (2 ^ k) ∧ b ∈ ps.take (2 ^ k) then meetQ C a b k (ps.take (2 ^ k)) else if a ∈ ps.drop (2 ^ k) ∧ b ∈ ps.drop (2 ^ k) then meetQ C a b k (ps.drop (2 ^ k)) else
    lk ((mkT k (ps.take (2 ^ k))).wl C ++ (mkT k (ps.drop (2 ^ k))).wl C) a * lk ((mkT k (ps.take (2 ^ k))).wl C ++ (mkT k (ps.drop (2 ^ k))).wl C) b
def mtch (C : Nat → Nat → Rat) (p : Nat) : Nat → List Nat → Rat
  | 0, _ => 0
  | k + 1, ps => if p ∈ ps.take (2 ^ k) then mtch C p k (ps.take (2 ^ k)) + lk ((mkT k (ps.take (2 ^ k))).wl C) p else mtch C p k (ps.drop (2 ^ k)) + lk ((mkT k (ps.drop (2 ^ k))).wl C) p
section
variable {C : Nat → Nat → Rat} {n k a b p : Nat} {ps L R : List Nat}
theorem lk_left {X Y : List (Nat × Rat)} (h : p ∈ X.map (·.1)) : lk (X ++ Y) p = lk X p := by
  unfold lk
  induction X with
  | nil => cases h
  | cons z X ih =>
    rw [List.cons_append, List.find?_cons, List.find?_cons]
    by_cases c : z.1 = p
    · subst c; simp
    · rw [decide_eq_false c]
      rw [List.map_cons] at h
      exact ih ((List.mem_cons.mp h).resolve_left fun e => c e.symm)
theorem lk_right {X Y : List (Nat × Rat)} (h : p ∉ X.map (·.1)) : lk (X ++ Y) p = lk Y p := by
  unfold lk
  induction X with
  | nil => rfl
  | cons z X ih =>
    rw [List.map_cons, List.mem_cons, not_or] at h
    rw [List.cons_append, List.find?_cons, decide_eq_false (fun e => h.1 e.symm)]
    exact ih h.2
theorem wl_fstk (h : ps.length = 2 ^ k) : ((mkT k ps).wl C).map (·.1) = ps := by rw [wl_fst, mk_pl h]
theorem td (ps : List Nat) (m : Nat) : ps.take m ++ ps.drop m = ps := List.take_append_drop m ps
theorem seg_full (hl : ps.length = 2 ^ k) : seg k 0 ps = ps := by
  unfold seg
  rw [Nat.zero_mul, List.drop_zero, ← hl, List.take_length]
end
end Py
namespace Py
open PySem D
local macro_rules
  | `(tactic| walk_at "w") => `(tactic| with_reducible first
    | refine seq_nx ?_ | refine seq_rt ?_ | refine seq_bk ?_ | refine seq_ct ?_ | refine wp_seq ?_ | refine wp_asg ?_ | refine wp_next ?_ | refine wp_ret ?_ | refine wp_retN ?_ | refine wp_brk ?_ | refine wp_cont ?_ | refine wp_expr ?_ | refine wp_op ?_ | refine wp_un ?_ | refine wp_c ?_
    | refine unB ?_ | refine wp_truB ?_ | refine wp_and ?_ | refine wp_or ?_ | refine wp_not ?_ | refine wp_ifE ?_ | refine wp_tup ?_ | refine wp_lst ?_ | refine wp_lcons ?_ | refine wp_lnil ?_ | refine frzV ?_ | refine frzN ?_ | refine wp_frz ?_ | refine wp_sl ?_ | refine wp_onone ?_ | refine wp_osome ?_
    | refine wp_anil ?_ | refine wp_av ?_ | refine wp_andV ?_ | refine wp_orV ?_ | refine wp_notV ?_ | refine wp_fgtR ?_ | refine turn_nx ?_ | refine turn_rt ?_ | refine turn_bk ?_ | refine turn_ct ?_ | refine fgt_rt ?_ | refine wp_par ?_ | refine wp_chain ?_ | refine wp_seqI ?_)
local macro_rules
  | `(tactic| walk_at "put") => `(tactic| focus ((repeat apply PutR.s); first | exact PutR.z rfl | exact PutR.z (by assumption)))
local macro_rules
  | `(tactic| walk_at "set") => `(tactic| focus ((repeat apply SetR.s); first | exact SetR.o | exact SetR.r))
local macro_rules
  | `(tactic| walk_at "fgt") => `(tactic| focus (repeat first | exact FgtsR.nil | exact FgtR.k | exact FgtR.z rfl | exact FgtR.z (by assumption) | apply FgtR.s | apply FgtsR.cons))
local macro_rules
  | `(tactic| walk_at "x") => `(tactic| first
    | ((with_reducible apply wp_varV); (focus exact rfl)) | ((with_reducible apply wp_varO); (focus exact rfl)) | ((with_reducible apply wp_varR); (focus exact rfl))
    | ((with_reducible apply opq); (focus exact rfl); (focus exact rfl); (focus (first | exact ev_eqI | exact ev_neI | exact ev_ltI | exact ev_leI | exact ev_gtI | exact ev_geI | exact ev_in2 | exact ev_in2n | exact ev_in4n | exact ev_isT | exact ev_isF | exact ev_isnT | exact ev_isnF | exact ev_eqQ0 | exact ev_eqQ1 | exact ev_eqQ | exact ev_neQ | exact ev_strT | exact ev_strF n1 | exact ev_strF n2 | exact ev_strF n3 | exact ev_strF n4 | exact ev_strF n5 | exact ev_strF n6 | exact rfl)))
    | ((with_reducible apply unq); (focus exact rfl); (focus exact rfl))
    | ((with_reducible first | apply putqV | apply putqN); walk_at "put")
    | ((with_reducible apply putqB); (focus exact rfl); (focus exact rfl); walk_at "put"; walk_at "put")
    | ((with_reducible apply putq2); walk_at "put"; walk_at "put")
    | ((with_reducible apply parq); walk_at "put"; walk_at "put")
    | ((with_reducible apply wp_callR); (focus (repeat first | exact RefsR.nil | apply RefsR.v | apply RefsR.r)); (focus decide))
    | ((with_reducible apply wp_ar); (focus exact rfl))
    | ((with_reducible apply fin_rt); (focus exact rfl); (focus exact rfl))
    | ((with_reducible apply fin_nx); (focus exact rfl))
    | ((with_reducible apply wp_appendR); (focus exact rfl))
    | (with_reducible refine ⟨_, rfl, ?_⟩) | (with_reducible refine ⟨_, .inl rfl, ?_⟩) | (with_reducible refine ⟨_, .inr (.inl rfl), ?_⟩) | (with_reducible refine ⟨_, .inr (.inr rfl), ?_⟩)
    | (with_reducible apply callq0) | ((with_reducible apply frzB); (focus exact rfl); (focus exact rfl); walk_at "put")
    | ((with_reducible apply callq1); walk_at "set")
    | ((with_reducible apply callq2); walk_at "set"; walk_at "set")
    | ((with_reducible first | apply fgt_nx | apply fgt_bk | apply fgt_ct); walk_at "fgt")
    | ((with_reducible apply brT); (focus exact rfl)) | ((with_reducible apply brF); (focus exact rfl)))
local macro_rules
  | `(tactic| walk_at "r") => `(tactic| repeat first | walk_at "w" | walk_at "x")
local macro_rules
  | `(tactic| walk_at "ri") => `(tactic| repeat first | walk_at "w" | walk_at "x" | (with_reducible refine wp_if ?_))
local macro_rules
  | `(tactic| walk_at "app") => `(tactic| ((with_reducible apply appq); (focus exact rfl); (focus ((try simp only [List.length_map, List.length_nil, List.length_cons, List.length_append]); unfold line; omega)); walk_at "set"))
local macro_rules
  | `(tactic| walk_at "mul") => `(tactic| ((refine opq rfl rfl (ev_mul ?_) ?_); (focus (apply mulT <;> omega))))
local macro_rules
  | `(tactic| walk_at "rm") => `(tactic| repeat first | walk_at "w" | walk_at "x" | walk_at "mul")
local macro_rules
  | `(tactic| walk_at "len") => `(tactic| (refine And.intro ?_ ?_; (focus (simp [line]; done))))
local macro_rules
  | `(tactic| walk_at "rl") => `(tactic| repeat first | walk_at "w" | walk_at "x" | walk_at "len")
local macro_rules
  | `(tactic| walk_at "ril") => `(tactic| repeat first | walk_at "w" | walk_at "x" | walk_at "len" | (with_reducible refine wp_if ?_))
/-! QLb: to_meet. -/
section
variable {Q : R → List Ob → Prop} {C : Nat → Nat → Rat} {n k a b p : Nat} {ps : List Nat}
theorem ev_inN {qs : List Nat} : fIn false (.pv (natI a)) (.pv (.tuple (qs.map natI))) = some (.val (.bool (decide (a ∈ qs)))) := by
  have e : qs.map natI = (qs.map fun q : Nat => (q : Int)).map PyData.int := by rw [List.map_map]; rfl
  rw [show natI a = .int (a : Int) from rfl, ev_inF (xs := qs.map fun q : Nat => (q : Int)) (by show some (qs.map natI) = _; rw [e])]
  congr 4
  have : (a : Int) ∈ qs.map (fun q : Nat => (q : Int)) ↔ a ∈ qs := by
    rw [List.mem_map]
    exact ⟨fun ⟨x, h, e⟩ => by rw [← show x = a by omega]; exact h, fun h => ⟨a, h, rfl⟩⟩
  exact propext this
end
end Py
namespace Py
open PySem D
local macro_rules
  | `(tactic| walk_at "w") => `(tactic| with_reducible first
    | refine seq_nx ?_ | refine seq_rt ?_ | refine seq_bk ?_ | refine seq_ct ?_ | refine wp_seq ?_ | refine wp_asg ?_ | refine wp_next ?_ | refine wp_ret ?_ | refine wp_retN ?_ | refine wp_brk ?_ | refine wp_cont ?_ | refine wp_expr ?_ | refine wp_op ?_ | refine wp_un ?_ | refine wp_c ?_
    | refine unB ?_ | refine wp_truB ?_ | refine wp_and ?_ | refine wp_or ?_ | refine wp_not ?_ | refine wp_ifE ?_ | refine wp_tup ?_ | refine wp_lst ?_ | refine wp_lcons ?_ | refine wp_lnil ?_ | refine frzV ?_ | refine frzN ?_ | refine wp_frz ?_ | refine wp_sl ?_ | refine wp_onone ?_ | refine wp_osome ?_
    | refine wp_anil ?_ | refine wp_av ?_ | refine wp_andV ?_ | refine wp_orV ?_ | refine wp_notV ?_ | refine wp_fgtR ?_ | refine turn_nx ?_ | refine turn_rt ?_ | refine turn_bk ?_ | refine turn_ct ?_ | refine fgt_rt ?_ | refine wp_par ?_ | refine wp_chain ?_ | refine wp_seqI ?_)
local macro_rules
  | `(tactic| walk_at "put") => `(tactic| focus ((repeat apply PutR.s); first | exact PutR.z rfl | exact PutR.z (by assumption)))
local macro_rules
  | `(tactic| walk_at "set") => `(tactic| focus ((repeat apply SetR.s); first | exact SetR.o | exact SetR.r))
local macro_rules
  | `(tactic| walk_at "fgt") => `(tactic| focus (repeat first | exact FgtsR.nil | exact FgtR.k | exact FgtR.z rfl | exact FgtR.z (by assumption) | apply FgtR.s | apply FgtsR.cons))
local macro_rules
  | `(tactic| walk_at "x") => `(tactic| first
    | ((with_reducible apply wp_varV); (focus exact rfl)) | ((with_reducible apply wp_varO); (focus exact rfl)) | ((with_reducible apply wp_varR); (focus exact rfl))
    | ((with_reducible apply opq); (focus exact rfl); (focus exact rfl); (focus (first | exact ev_eqI | exact ev_neI | exact ev_ltI | exact ev_leI | exact ev_gtI | exact ev_geI | exact ev_in2 | exact ev_in2n | exact ev_in4n | exact ev_isT | exact ev_isF | exact ev_isnT | exact ev_isnF | exact ev_eqQ0 | exact ev_eqQ1 | exact ev_eqQ | exact ev_neQ | exact ev_strT | exact ev_strF n1 | exact ev_strF n2 | exact ev_strF n3 | exact ev_strF n4 | exact ev_strF n5 | exact ev_strF n6 | exact rfl)))
    | ((with_reducible apply unq); (focus exact rfl); (focus exact rfl))
    | ((with_reducible first | apply putqV | apply putqN); walk_at "put")
    | ((with_reducible apply putqB); (focus exact rfl); (focus exact rfl); walk_at "put"; walk_at "put")
    | ((with_reducible apply putq2); walk_at "put"; walk_at "put")
    | ((with_reducible apply parq); walk_at "put"; walk_at "put")
    | ((with_reducible apply wp_callR); (focus (repeat first | exact RefsR.nil | apply RefsR.v | apply RefsR.r)); (focus decide))
    | ((with_reducible apply wp_ar); (focus exact rfl))
    | ((with_reducible apply fin_rt); (focus exact rfl); (focus exact rfl))
    | ((with_reducible apply fin_nx); (focus exact rfl))
    | ((with_reducible apply wp_appendR); (focus exact rfl))
    | (with_reducible refine ⟨_, rfl, ?_⟩) | (with_reducible refine ⟨_, .inl rfl, ?_⟩) | (with_reducible refine ⟨_, .inr (.inl rfl), ?_⟩) | (with_reducible refine ⟨_, .inr (.inr rfl), ?_⟩)
    | (with_reducible apply callq0) | ((with_reducible apply frzB); (focus exact rfl); (focus exact rfl); walk_at "put")
    | ((with_reducible apply callq1); walk_at "set")
    | ((with_reducible apply callq2); walk_at "set"; walk_at "set")
    | ((with_reducible first | apply fgt_nx | apply fgt_bk | apply fgt_ct); walk_at "fgt")
    | ((with_reducible apply brT); (focus exact rfl)) | ((with_reducible apply brF); (focus exact rfl)))
local macro_rules
  | `(tactic| walk_at "r") => `(tactic| repeat first | walk_at "w" | walk_at "x")
local macro_rules
  | `(tactic| walk_at "ri") => `(tactic| repeat first | walk_at "w" | walk_at "x" | (with_reducible refine wp_if ?_))
local macro_rules
  | `(tactic| walk_at "app") => `(tactic| ((with_reducible apply appq); (focus exact rfl); (focus ((try simp only [List.length_map, List.length_nil, List.length_cons, List.length_append]); unfold line; omega)); walk_at "set"))
local macro_rules
  | `(tactic| walk_at "mul") => `(tactic| ((refine opq rfl rfl (ev_mul ?_) ?_); (focus (apply mulT <;> omega))))
local macro_rules
  | `(tactic| walk_at "rm") => `(tactic| repeat first | walk_at "w" | walk_at "x" | walk_at "mul")
local macro_rules
  | `(tactic| walk_at "len") => `(tactic| (refine And.intro ?_ ?_; (focus (simp [line]; done))))
local macro_rules
  | `(tactic| walk_at "rl") => `(tactic| repeat first | walk_at "w" | walk_at "x" | walk_at "len")
local macro_rules
  | `(tactic| walk_at "ril") => `(tactic| repeat first | walk_at "w" | walk_at "x" | walk_at "len" | (with_reducible refine wp_if ?_))
/-! QLc: what is due for two players. -/
theorem wp_lcG {α : Type} {i : Nat} {a e : M} {t : MT} {ρ ρ1 : Env} {Q : R → Env → Prop} (f : α → PV) (xs : List α) (p : α → Bool) (hv : α → PV) (hi : i < ρ1.length) (hl : xs.length ≤ line)
    (h : Wp a ρ fun x ρ' => (x = .val (.list (xs.map f)) ∨ x = .val (.tuple (xs.map f)) ∨ x = .new (.lst (xs.map f))) ∧ ρ' = ρ1)
    (ht : ∀ y, y ∈ xs → Wp t (List.set ρ1 i (some (.val (f y)))) fun b ρ3 => b = p y ∧ ρ3 = List.set ρ1 i (some (.val (f y))))
    (step : ∀ y, y ∈ xs → Wp e (List.set ρ1 i (some (.val (f y)))) fun r ρ3 => FrzQ r ρ3 fun v ρ4 => v = hv y ∧ ρ4 = List.set ρ1 i (some (.val (f y))))
    (q : Q (.new (.lst ((xs.filter p).map hv))) ρ1) : Wp (mLc (iSeq a) (gName i) [i] t e) ρ Q := by
  refine wp_lc f (fun done acc ρ' => acc = (done.filter p).map hv ∧ ∃ u, ρ' = List.set ρ1 i u) ?_
  refine wp_seqI (h.mono fun x ρ' ⟨h1, h2⟩ => ⟨xs.map f, h1, ?_⟩)
  subst h2
  refine ⟨xs, rfl, hl, ⟨rfl, get ρ' i, ?_⟩, ?_, ?_⟩
  · unfold get
    rw [List.getElem?_eq_getElem hi]
    simp
  · rintro done y rest acc _ e3 ⟨rfl, u, rfl⟩
    have hy : y ∈ xs := by rw [e3]; simp
    have hs := step y hy
    have ht' := ht y hy
    have hg : get (List.set ρ' i none) i = none := by
      unfold get
      rw [List.getElem?_set_self hi]
      rfl
    refine ⟨List.set ρ' i (some (.val (f y))), ?_, ht'.mono fun b ρ3 ⟨e4, e5⟩ => ?_⟩
    · show put i (some (.val (f y))) (List.set (List.set ρ' i u) i none) = _
      rw [set_set]
      unfold put
      rw [hg]
      show some ((List.set ρ' i none).set i (some (.val (f y)))) = _
      rw [set_set]
    · subst e4 e5
      rw [List.filter_append, List.filter_cons, List.filter_nil]
      refine ⟨fun hb => hs.mono fun r ρ3 ⟨v, ρ4, e6, e7, e8⟩ => ⟨v, ρ4, e6, ?_, some (.val (f y)), e8⟩, fun hb => ⟨?_, some (.val (f y)), rfl⟩⟩
      · rw [if_pos hb, List.map_append, e7]
        rfl
      · rw [if_neg (by rw [hb]; decide)]
        simp
  · rintro acc _ ⟨rfl, u, rfl⟩
    have eb : back ρ' [i] (List.set ρ' i u) = ρ' := by
      show (List.set ρ' i u).set i (get ρ' i) = ρ'
      rw [set_set]
      unfold get
      rw [List.getElem?_eq_getElem hi]
      simp
    rw [eb]
    exact q
section
variable {Q : R → List Ob → Prop} {C : Nat → Nat → Rat} {n k a b x y : Nat} {ps qs : List Nat}
theorem one_sum {p : Nat × Int → Bool} {t : Int} : ∀ {L : List (Nat × Int)}, (L.map (·.1)).Nodup → (x, t) ∈ L → (∀ z ∈ L, p z = decide (z.1 = x)) → ((L.filter p).map (·.2)).sum = t
  | z :: L, hn, hm, hp => by
    rw [List.map_cons, List.nodup_cons] at hn
    rw [List.filter_cons, hp z (List.mem_cons_self ..)]
    rcases List.mem_cons.mp hm with rfl | hm
    · have : L.filter p = [] := by
        rw [List.filter_eq_nil_iff]
        intro w hw
        rw [hp w (List.mem_cons_of_mem _ hw)]
        have : w.1 ≠ x := fun e => hn.1 (e ▸ List.mem_map.mpr ⟨w, hw, rfl⟩)
        simp [this]
      rw [this]
      simp
    · have hz : ¬ z.1 = x := fun e => hn.1 (e ▸ List.mem_map.mpr ⟨(x, t), hm, rfl⟩)
      rw [decide_eq_false hz]
      simp only [Bool.false_eq_true, if_false]
      exact one_sum hn.2 hm fun w hw => hp w (List.mem_cons_of_mem _ hw)
theorem good_lk {r : Nat} {L : List (Nat × Int)} {d : Int} (hg : GoodB n C qs r 0 (L, d)) (hl : qs.length = 2 ^ r) (hn : qs.Nodup) (hx : x ∈ qs) : ∃ t : Int, (x, t) ∈ L ∧ (t : Rat) = (d : Rat) * lk ((mkT r qs).wl C) x := by
  have hv := hg.val
  have hf := good_fst hg (by omega)
  rw [seg_full hl] at hv hf
  dsimp only at hv hf
  obtain ⟨⟨x', t⟩, hz, e⟩ := List.mem_map.mp (show x ∈ L.map (·.1) by rw [hf]; exact hx)
  obtain rfl : x' = x := e
  refine ⟨t, hz, ?_⟩
  have : ((x', (t : Rat) / (d : Rat)) : Nat × Rat) ∈ (mkT r qs).wl C := by
    rw [← hv]
    exact List.mem_map.mpr ⟨(x', t), hz, rfl⟩
  rw [lk_mem (by rw [wl_fstk hl]; exact hn) this]
  have hd : (d : Rat) ≠ 0 := ic_ne (by have := hg.blk.pos; dsimp only at this; omega)
  dsimp only
  grind
end
end Py
namespace Py
open PySem D
local macro_rules
  | `(tactic| walk_at "w") => `(tactic| with_reducible first
    | refine seq_nx ?_ | refine seq_rt ?_ | refine seq_bk ?_ | refine seq_ct ?_ | refine wp_seq ?_ | refine wp_asg ?_ | refine wp_next ?_ | refine wp_ret ?_ | refine wp_retN ?_ | refine wp_brk ?_ | refine wp_cont ?_ | refine wp_expr ?_ | refine wp_op ?_ | refine wp_un ?_ | refine wp_c ?_
    | refine unB ?_ | refine wp_truB ?_ | refine wp_and ?_ | refine wp_or ?_ | refine wp_not ?_ | refine wp_ifE ?_ | refine wp_tup ?_ | refine wp_lst ?_ | refine wp_lcons ?_ | refine wp_lnil ?_ | refine frzV ?_ | refine frzN ?_ | refine wp_frz ?_ | refine wp_sl ?_ | refine wp_onone ?_ | refine wp_osome ?_
    | refine wp_anil ?_ | refine wp_av ?_ | refine wp_andV ?_ | refine wp_orV ?_ | refine wp_notV ?_ | refine wp_fgtR ?_ | refine turn_nx ?_ | refine turn_rt ?_ | refine turn_bk ?_ | refine turn_ct ?_ | refine fgt_rt ?_ | refine wp_par ?_ | refine wp_chain ?_ | refine wp_seqI ?_)
local macro_rules
  | `(tactic| walk_at "put") => `(tactic| focus ((repeat apply PutR.s); first | exact PutR.z rfl | exact PutR.z (by assumption)))
local macro_rules
  | `(tactic| walk_at "set") => `(tactic| focus ((repeat apply SetR.s); first | exact SetR.o | exact SetR.r))
local macro_rules
  | `(tactic| walk_at "fgt") => `(tactic| focus (repeat first | exact FgtsR.nil | exact FgtR.k | exact FgtR.z rfl | exact FgtR.z (by assumption) | apply FgtR.s | apply FgtsR.cons))
local macro_rules
  | `(tactic| walk_at "x") => `(tactic| first
    | ((with_reducible apply wp_varV); (focus exact rfl)) | ((with_reducible apply wp_varO); (focus exact rfl)) | ((with_reducible apply wp_varR); (focus exact rfl))
    | ((with_reducible apply opq); (focus exact rfl); (focus exact rfl); (focus (first | exact ev_eqI | exact ev_neI | exact ev_ltI | exact ev_leI | exact ev_gtI | exact ev_geI | exact ev_in2 | exact ev_in2n | exact ev_in4n | exact ev_isT | exact ev_isF | exact ev_isnT | exact ev_isnF | exact ev_eqQ0 | exact ev_eqQ1 | exact ev_eqQ | exact ev_neQ | exact ev_strT | exact ev_strF n1 | exact ev_strF n2 | exact ev_strF n3 | exact ev_strF n4 | exact ev_strF n5 | exact ev_strF n6 | exact rfl)))
    | ((with_reducible apply unq); (focus exact rfl); (focus exact rfl))
    | ((with_reducible first | apply putqV | apply putqN); walk_at "put")
    | ((with_reducible apply putqB); (focus exact rfl); (focus exact rfl); walk_at "put"; walk_at "put")
    | ((with_reducible apply putq2); walk_at "put"; walk_at "put")
    | ((with_reducible apply parq); walk_at "put"; walk_at "put")
    | ((with_reducible apply wp_callR); (focus (repeat first | exact RefsR.nil | apply RefsR.v | apply RefsR.r)); (focus decide))
    | ((with_reducible apply wp_ar); (focus exact rfl))
    | ((with_reducible apply fin_rt); (focus exact rfl); (focus exact rfl))
    | ((with_reducible apply fin_nx); (focus exact rfl))
    | ((with_reducible apply wp_appendR); (focus exact rfl))
    | (with_reducible refine ⟨_, rfl, ?_⟩) | (with_reducible refine ⟨_, .inl rfl, ?_⟩) | (with_reducible refine ⟨_, .inr (.inl rfl), ?_⟩) | (with_reducible refine ⟨_, .inr (.inr rfl), ?_⟩)
    | (with_reducible apply callq0) | ((with_reducible apply frzB); (focus exact rfl); (focus exact rfl); walk_at "put")
    | ((with_reducible apply callq1); walk_at "set")
    | ((with_reducible apply callq2); walk_at "set"; walk_at "set")
    | ((with_reducible first | apply fgt_nx | apply fgt_bk | apply fgt_ct); walk_at "fgt")
    | ((with_reducible apply brT); (focus exact rfl)) | ((with_reducible apply brF); (focus exact rfl)))
local macro_rules
  | `(tactic| walk_at "r") => `(tactic| repeat first | walk_at "w" | walk_at "x")
local macro_rules
  | `(tactic| walk_at "ri") => `(tactic| repeat first | walk_at "w" | walk_at "x" | (with_reducible refine wp_if ?_))
local macro_rules
  | `(tactic| walk_at "app") => `(tactic| ((with_reducible apply appq); (focus exact rfl); (focus ((try simp only [List.length_map, List.length_nil, List.length_cons, List.length_append]); unfold line; omega)); walk_at "set"))
local macro_rules
  | `(tactic| walk_at "mul") => `(tactic| ((refine opq rfl rfl (ev_mul ?_) ?_); (focus (apply mulT <;> omega))))
local macro_rules
  | `(tactic| walk_at "rm") => `(tactic| repeat first | walk_at "w" | walk_at "x" | walk_at "mul")
local macro_rules
  | `(tactic| walk_at "len") => `(tactic| (refine And.intro ?_ ?_; (focus (simp [line]; done))))
local macro_rules
  | `(tactic| walk_at "rl") => `(tactic| repeat first | walk_at "w" | walk_at "x" | walk_at "len")
local macro_rules
  | `(tactic| walk_at "ril") => `(tactic| repeat first | walk_at "w" | walk_at "x" | walk_at "len" | (with_reducible refine wp_if ?_))
/-! QLe: unlike places. -/
abbrev tupN (s : List Nat) : PV := .tuple (s.map natI)
def stepH (h : Nat) (found : List (List Nat)) (m : Nat) : List (List Nat) := found ++ (found.filter fun s => decide (s.length < h)).map fun s => s ++ [m]
def halvesF (ms : List Nat) : List (List Nat) := ((ms.drop 1).foldl (stepH (ms.length / 2)) [ms.take 1]).filter fun s => decide (s.length = ms.length / 2)
def bU : Nat → Nat
  | 0 => 0
  | k + 1 => 2 ^ (k + 1) - 1 + 2 * bU k
def unlikeF : Nat → List Nat → List (List Nat)
  | 0, ms => [ms]
  | k + 1, ms => (halvesF ms).flatMap fun f => (unlikeF k f).flatMap fun one => (unlikeF k (ms.filter fun m => !decide (m ∈ f))).map fun other => one ++ other
section
variable {Q : R → List Ob → Prop} {n k : Nat} {ms : List Nat}
theorem stepH_len {h m : Nat} {found : List (List Nat)} : (stepH h found m).length ≤ 2 * found.length := by
  unfold stepH
  rw [List.length_append, List.length_map]
  have := List.length_filter_le (fun s : List Nat => decide (s.length < h)) found
  omega
theorem foldH_len {h : Nat} : ∀ (l : List Nat) (found : List (List Nat)), (l.foldl (stepH h) found).length ≤ 2 ^ l.length * found.length
  | [], found => by simp
  | m :: l, found => by
    rw [List.foldl_cons, List.length_cons, Nat.pow_succ]
    refine Nat.le_trans (foldH_len l _) ?_
    rw [Nat.mul_assoc]
    exact Nat.mul_le_mul_left _ stepH_len
theorem foldH_sub {h : Nat} : ∀ (l pre : List Nat) (found : List (List Nat)), (∀ s ∈ found, s.Sublist pre) → ∀ s ∈ l.foldl (stepH h) found, s.Sublist (pre ++ l)
  | [], pre, found, hf, s, hs => by rw [List.append_nil]; exact hf s hs
  | m :: l, pre, found, hf, s, hs => by
    rw [List.foldl_cons] at hs
    have := foldH_sub l (pre ++ [m]) (stepH h found m) (fun s hs => by
      unfold stepH at hs
      rcases List.mem_append.mp hs with hs | hs
      · exact (hf s hs).trans (List.sublist_append_left _ _)
      · obtain ⟨t, ht, rfl⟩ := List.mem_map.mp hs
        exact (hf t (List.mem_filter.mp ht |>.1)).append (List.Sublist.refl _)) s hs
    rw [List.append_assoc] at this
    exact this
theorem halves_sub {s : List Nat} (hs : s ∈ halvesF ms) : s.Sublist ms ∧ s.length = ms.length / 2 := by
  unfold halvesF at hs
  obtain ⟨h1, h2⟩ := List.mem_filter.mp hs
  refine ⟨?_, of_decide_eq_true h2⟩
  have := foldH_sub (ms.drop 1) (ms.take 1) [ms.take 1] (fun s hs => by rw [List.mem_singleton.mp hs]; exact List.Sublist.refl _) s h1
  rw [List.take_append_drop] at this
  exact this
theorem halves_len : (halvesF ms).length ≤ 2 ^ (ms.length - 1) := by
  unfold halvesF
  refine Nat.le_trans (List.length_filter_le _ _) ?_
  refine Nat.le_trans (foldH_len _ _) ?_
  rw [List.length_singleton, Nat.mul_one, List.length_drop]
  exact Nat.le_refl _
theorem other_len {s : List Nat} (hs : s.Sublist ms) (hn : ms.Nodup) : (ms.filter fun m => !decide (m ∈ s)).length = ms.length - s.length := by
  induction hs with
  | slnil => rfl
  | cons x h ih =>
    rename_i l1 l2
    rw [List.nodup_cons] at hn
    have hx : x ∉ l1 := fun z => hn.1 (h.subset z)
    rw [List.filter_cons, if_pos (by simp [hx]), List.length_cons, List.length_cons, ih hn.2]
    have := h.length_le
    omega
  | cons_cons x h ih =>
    rename_i l1 l2
    rw [List.nodup_cons] at hn
    rw [List.filter_cons, if_neg (by simp), List.length_cons, List.length_cons]
    have e : (l2.filter fun m => !decide (m ∈ x :: l1)) = l2.filter fun m => !decide (m ∈ l1) := by
      refine List.filter_congr fun m hm => ?_
      have : m ≠ x := fun e => hn.1 (e ▸ hm)
      simp [this]
    rw [e, ih hn.2]
    omega
theorem unlike_len : ∀ (k : Nat) (ms : List Nat), k ≤ 3 → ms.length = 2 ^ k → ms.Nodup → (unlikeF k ms).length ≤ 2 ^ bU k
  | 0, ms, _, _, _ => Nat.le_refl 1
  | k + 1, ms, hk, hl, hn => by
    have h8 : 2 ^ (k + 1) ≤ 8 := Nat.pow_le_pow_right (n := 2) (by decide) hk
    unfold unlikeF
    rw [List.length_flatMap]
    have h1 : ∀ f ∈ halvesF ms, ((unlikeF k f).flatMap fun one => (unlikeF k (ms.filter fun m => !decide (m ∈ f))).map fun other => one ++ other).length ≤ 2 ^ bU k * 2 ^ bU k := by
      intro f hf
      obtain ⟨s1, s2⟩ := halves_sub hf
      have l1 : f.length = 2 ^ k := by rw [s2, hl, Nat.pow_succ]; omega
      have l2 : (ms.filter fun m => !decide (m ∈ f)).length = 2 ^ k := by rw [other_len s1 hn, l1, hl, Nat.pow_succ]; omega
      rw [List.length_flatMap]
      have i1 := unlike_len k f (by omega) l1 (s1.nodup hn)
      have i2 := unlike_len k _ (by omega) l2 (hn.filter _)
      have : ((unlikeF k f).map fun one => ((unlikeF k (ms.filter fun m => !decide (m ∈ f))).map fun other => one ++ other).length) = (unlikeF k f).map fun _ => (unlikeF k (ms.filter fun m => !decide (m ∈ f))).length := List.map_congr_left fun _ _ => by rw [List.length_map]
      rw [this, List.map_const', List.sum_replicate_nat]
      exact Nat.mul_le_mul i1 i2
    have h2 : ((halvesF ms).map fun f => ((unlikeF k f).flatMap fun one => (unlikeF k (ms.filter fun m => !decide (m ∈ f))).map fun other => one ++ other).length).sum ≤ (halvesF ms).length * (2 ^ bU k * 2 ^ bU k) := by
      generalize halvesF ms = L at *
      clear hl hn h8
      induction L with
      | nil => simp
      | cons f L ih =>
        rw [List.map_cons, List.sum_cons, List.length_cons, Nat.add_mul, Nat.one_mul]
        have a := h1 f (List.mem_cons_self ..)
        have b := ih fun g hg => h1 g (List.mem_cons_of_mem _ hg)
        omega
    refine Nat.le_trans h2 ?_
    refine Nat.le_trans (Nat.mul_le_mul_right _ halves_len) ?_
    rw [← Nat.pow_add, ← Nat.pow_add, hl]
    refine Nat.pow_le_pow_right (by decide) ?_
    show _ ≤ 2 ^ (k + 1) - 1 + 2 * bU k
    omega
end
end Py
namespace Py
open PySem D
local macro_rules
  | `(tactic| walk_at "w") => `(tactic| with_reducible first
    | refine seq_nx ?_ | refine seq_rt ?_ | refine seq_bk ?_ | refine seq_ct ?_ | refine wp_seq ?_ | refine wp_asg ?_ | refine wp_next ?_ | refine wp_ret ?_ | refine wp_retN ?_ | refine wp_brk ?_ | refine wp_cont ?_ | refine wp_expr ?_ | refine wp_op ?_ | refine wp_un ?_ | refine wp_c ?_
    | refine unB ?_ | refine wp_truB ?_ | refine wp_and ?_ | refine wp_or ?_ | refine wp_not ?_ | refine wp_ifE ?_ | refine wp_tup ?_ | refine wp_lst ?_ | refine wp_lcons ?_ | refine wp_lnil ?_ | refine frzV ?_ | refine frzN ?_ | refine wp_frz ?_ | refine wp_sl ?_ | refine wp_onone ?_ | refine wp_osome ?_
    | refine wp_anil ?_ | refine wp_av ?_ | refine wp_andV ?_ | refine wp_orV ?_ | refine wp_notV ?_ | refine wp_fgtR ?_ | refine turn_nx ?_ | refine turn_rt ?_ | refine turn_bk ?_ | refine turn_ct ?_ | refine fgt_rt ?_ | refine wp_par ?_ | refine wp_chain ?_ | refine wp_seqI ?_)
local macro_rules
  | `(tactic| walk_at "put") => `(tactic| focus ((repeat apply PutR.s); first | exact PutR.z rfl | exact PutR.z (by assumption)))
local macro_rules
  | `(tactic| walk_at "set") => `(tactic| focus ((repeat apply SetR.s); first | exact SetR.o | exact SetR.r))
local macro_rules
  | `(tactic| walk_at "fgt") => `(tactic| focus (repeat first | exact FgtsR.nil | exact FgtR.k | exact FgtR.z rfl | exact FgtR.z (by assumption) | apply FgtR.s | apply FgtsR.cons))
local macro_rules
  | `(tactic| walk_at "x") => `(tactic| first
    | ((with_reducible apply wp_varV); (focus exact rfl)) | ((with_reducible apply wp_varO); (focus exact rfl)) | ((with_reducible apply wp_varR); (focus exact rfl))
    | ((with_reducible apply opq); (focus exact rfl); (focus exact rfl); (focus (first | exact ev_eqI | exact ev_neI | exact ev_ltI | exact ev_leI | exact ev_gtI | exact ev_geI | exact ev_in2 | exact ev_in2n | exact ev_in4n | exact ev_isT | exact ev_isF | exact ev_isnT | exact ev_isnF | exact ev_eqQ0 | exact ev_eqQ1 | exact ev_eqQ | exact ev_neQ | exact ev_strT | exact ev_strF n1 | exact ev_strF n2 | exact ev_strF n3 | exact ev_strF n4 | exact ev_strF n5 | exact ev_strF n6 | exact rfl)))
    | ((with_reducible apply unq); (focus exact rfl); (focus exact rfl))
    | ((with_reducible first | apply putqV | apply putqN); walk_at "put")
    | ((with_reducible apply putqB); (focus exact rfl); (focus exact rfl); walk_at "put"; walk_at "put")
    | ((with_reducible apply putq2); walk_at "put"; walk_at "put")
    | ((with_reducible apply parq); walk_at "put"; walk_at "put")
    | ((with_reducible apply wp_callR); (focus (repeat first | exact RefsR.nil | apply RefsR.v | apply RefsR.r)); (focus decide))
    | ((with_reducible apply wp_ar); (focus exact rfl))
    | ((with_reducible apply fin_rt); (focus exact rfl); (focus exact rfl))
    | ((with_reducible apply fin_nx); (focus exact rfl))
    | ((with_reducible apply wp_appendR); (focus exact rfl))
    | (with_reducible refine ⟨_, rfl, ?_⟩) | (with_reducible refine ⟨_, .inl rfl, ?_⟩) | (with_reducible refine ⟨_, .inr (.inl rfl), ?_⟩) | (with_reducible refine ⟨_, .inr (.inr rfl), ?_⟩)
    | (with_reducible apply callq0) | ((with_reducible apply frzB); (focus exact rfl); (focus exact rfl); walk_at "put")
    | ((with_reducible apply callq1); walk_at "set")
    | ((with_reducible apply callq2); walk_at "set"; walk_at "set")
    | ((with_reducible first | apply fgt_nx | apply fgt_bk | apply fgt_ct); walk_at "fgt")
    | ((with_reducible apply brT); (focus exact rfl)) | ((with_reducible apply brF); (focus exact rfl)))
local macro_rules
  | `(tactic| walk_at "r") => `(tactic| repeat first | walk_at "w" | walk_at "x")
local macro_rules
  | `(tactic| walk_at "ri") => `(tactic| repeat first | walk_at "w" | walk_at "x" | (with_reducible refine wp_if ?_))
local macro_rules
  | `(tactic| walk_at "app") => `(tactic| ((with_reducible apply appq); (focus exact rfl); (focus ((try simp only [List.length_map, List.length_nil, List.length_cons, List.length_append]); unfold line; omega)); walk_at "set"))
local macro_rules
  | `(tactic| walk_at "mul") => `(tactic| ((refine opq rfl rfl (ev_mul ?_) ?_); (focus (apply mulT <;> omega))))
local macro_rules
  | `(tactic| walk_at "rm") => `(tactic| repeat first | walk_at "w" | walk_at "x" | walk_at "mul")
local macro_rules
  | `(tactic| walk_at "len") => `(tactic| (refine And.intro ?_ ?_; (focus (simp [line]; done))))
local macro_rules
  | `(tactic| walk_at "rl") => `(tactic| repeat first | walk_at "w" | walk_at "x" | walk_at "len")
local macro_rules
  | `(tactic| walk_at "ril") => `(tactic| repeat first | walk_at "w" | walk_at "x" | walk_at "len" | (with_reducible refine wp_if ?_))
/-! QLf: unlike places, walked. -/
theorem wp_augLK {i : Nat} {a : M} {ρ : Env} {QS : Fl → Env → Prop} {ys0 : List PV} (h0 : lstAt ρ i = some ys0) (h : Wp a ρ fun x ρ1 => ∃ ys xs ρ2, x = .new (.lst ys) ∧ lstAt ρ1 i = some xs ∧ xs.length + ys.length ≤ line ∧ SetR ρ1 i (.lst (xs ++ ys)) ρ2 ∧ QS .nx ρ2) : Wp (sAugL i a) ρ QS := by
  obtain ⟨x, ρ1, e1, ys, xs, ρ2, rfl, e3, e4, e5, q⟩ := h
  refine ⟨.nx, ρ2, ?_, q⟩
  rw [← e5.eq]
  simp only [sAugL, h0, e1, e3, Option.bind_some, if_pos e4]
theorem wp_lcHK {k : Nat} {xs : List PV} {g : MG} {vs : List Nat} {t : MT} {e : M} {ρ : Env} {Q : R → Env → Prop} (h : lstAt ρ k = some xs) (q : Wp (mLc (iSeq (mC (.list xs))) g vs t e) (List.set ρ k none) fun r ρ' => Q r (List.set ρ' k (get ρ k))) : Wp (mLcH k g vs t e) ρ Q := by
  obtain ⟨r, ρ', e1, e2⟩ := q
  refine ⟨r, List.set ρ' k (get ρ k), ?_, e2⟩
  unfold mLcH
  rw [h]
  show Option.map _ (mLc _ g vs t e (List.set ρ k none)) = _
  rw [e1]
  rfl
theorem wp_lcGK {α : Type} {i : Nat} {a e : M} {t : MT} {ρ ρ1 : Env} {Q : R → Env → Prop} (f : α → PV) (xs : List α) (p : α → Bool) (hv : α → PV) (hi : i < ρ1.length) (hl : xs.length ≤ line)
    (h : Wp a ρ fun x ρ' => (x = .val (.list (xs.map f)) ∨ x = .val (.tuple (xs.map f)) ∨ x = .new (.lst (xs.map f))) ∧ ρ' = ρ1)
    (ht : ∀ y, y ∈ xs → Wp t (List.set ρ1 i (some (.val (f y)))) fun b ρ3 => b = p y ∧ ρ3 = List.set ρ1 i (some (.val (f y))))
    (step : ∀ y, y ∈ xs → Wp e (List.set ρ1 i (some (.val (f y)))) fun r ρ3 => FrzQ r ρ3 fun v ρ4 => v = hv y ∧ ρ4 = List.set ρ1 i (some (.val (f y))))
    (q : Q (.new (.lst ((xs.filter p).map hv))) ρ1) : Wp (mLc (iSeq a) (gName i) [i] t e) ρ Q := by
  refine wp_lc f (fun done acc ρ' => acc = (done.filter p).map hv ∧ ∃ u, ρ' = List.set ρ1 i u) ?_
  refine wp_seqI (h.mono fun x ρ' ⟨h1, h2⟩ => ⟨xs.map f, h1, ?_⟩)
  subst h2
  refine ⟨xs, rfl, hl, ⟨rfl, get ρ' i, ?_⟩, ?_, ?_⟩
  · unfold get
    rw [List.getElem?_eq_getElem hi]
    simp
  · rintro done y rest acc _ e3 ⟨rfl, u, rfl⟩
    have hy : y ∈ xs := by rw [e3]; simp
    have hs := step y hy
    have ht' := ht y hy
    have hg : get (List.set ρ' i none) i = none := by
      unfold get
      rw [List.getElem?_set_self hi]
      rfl
    refine ⟨List.set ρ' i (some (.val (f y))), ?_, ht'.mono fun b ρ3 ⟨e4, e5⟩ => ?_⟩
    · show put i (some (.val (f y))) (List.set (List.set ρ' i u) i none) = _
      rw [set_set]
      unfold put
      rw [hg]
      show some ((List.set ρ' i none).set i (some (.val (f y)))) = _
      rw [set_set]
    · subst e4 e5
      rw [List.filter_append, List.filter_cons, List.filter_nil]
      refine ⟨fun hb => hs.mono fun r ρ3 ⟨v, ρ4, e6, e7, e8⟩ => ⟨v, ρ4, e6, ?_, some (.val (f y)), e8⟩, fun hb => ⟨?_, some (.val (f y)), rfl⟩⟩
      · rw [if_pos hb, List.map_append, e7]
        rfl
      · rw [if_neg (by rw [hb]; decide)]
        simp
  · rintro acc _ ⟨rfl, u, rfl⟩
    have eb : back ρ' [i] (List.set ρ' i u) = ρ' := by
      show (List.set ρ' i u).set i (get ρ' i) = ρ'
      rw [set_set]
      unfold get
      rw [List.getElem?_eq_getElem hi]
      simp
    rw [eb]
    exact q

section
variable {Q : R → List Ob → Prop} {n k a : Nat} {ms : List Nat}
theorem cut1 {xs : List PV} : cut xs none (some 1) = xs.take 1 := cutC (a := 1)
theorem cut1D {xs : List PV} : cut xs (some 1) none = xs.drop 1 := cutD (a := 1)
theorem ev_notN {qs : List Nat} : fIn true (.pv (natI a)) (.pv (.tuple (qs.map natI))) = some (.val (.bool (!decide (a ∈ qs)))) := by
  have e : qs.map natI = (qs.map fun q : Nat => (q : Int)).map PyData.int := by rw [List.map_map]; rfl
  rw [show natI a = .int (a : Int) from rfl, ev_inT (xs := qs.map fun q : Nat => (q : Int)) (by show some (qs.map natI) = _; rw [e])]
  have : (a : Int) ∈ qs.map (fun q : Nat => (q : Int)) ↔ a ∈ qs := by
    rw [List.mem_map]
    exact ⟨fun ⟨x, h, e⟩ => by rw [← show x = a by omega]; exact h, fun h => ⟨a, h, rfl⟩⟩
  rw [decide_eq_decide.mpr this]
theorem fold_small {h : Nat} : ∀ (l : List Nat) (found : List (List Nat)) (c : Nat), (∀ s ∈ found, s.length ≤ c) → ∀ s ∈ l.foldl (stepH h) found, s.length ≤ c + l.length
  | [], found, c, hf, s, hs => by have := hf s hs; simp only [List.length_nil]; omega
  | m :: l, found, c, hf, s, hs => by
    rw [List.foldl_cons] at hs
    have := fold_small l (stepH h found m) (c + 1) (fun s hs => by
      unfold stepH at hs
      rcases List.mem_append.mp hs with hs | hs
      · have := hf s hs; omega
      · obtain ⟨t, ht, rfl⟩ := List.mem_map.mp hs
        have := hf t (List.mem_filter.mp ht).1
        rw [List.length_append, List.length_singleton]
        omega) s hs
    rw [List.length_cons]
    omega
theorem of_halves (hl : ms.length = 2 ^ (k + 1)) (hk : k ≤ 2) (q : Q (.new (.lst ((halvesF ms).map tupN))) []) : Ret d_halves_k64_2 [.val (tupN ms)] Q := by
  have hln : (line : Nat) = 16777216 := rfl
  have h8 : 2 ^ (k + 1) ≤ 8 := Nat.pow_le_pow_right (n := 2) (by decide) (show k + 1 ≤ 3 by omega)
  have hh : ((ms.length : Nat) : Int).fdiv 2 = ((ms.length / 2 : Nat) : Int) := by rw [Int.fdiv_eq_ediv_of_nonneg _ (by decide)]; omega
  refine ret_mkR (by repeat constructor) ?_
  unfold b_halves_k64_2
  walk_at "rl"
  rw [cut1, ← List.map_take]
  walk_at "rl"
  have hfl : ∀ j, j ≤ 7 → (((ms.drop 1).take j).foldl (stepH (ms.length / 2)) [ms.take 1]).length ≤ 128 := fun j hj => by
    refine Nat.le_trans (foldH_len _ _) ?_
    rw [List.length_singleton, Nat.mul_one]
    refine Nat.pow_le_pow_right (n := 2) (by decide) (show _ ≤ 7 from ?_)
    rw [List.length_take]
    omega
  refine wp_forL (fun i ρ => ρ = [some (.val (tupN ms)), some (.own (.lst ((((ms.drop 1).take i).foldl (stepH (ms.length / 2)) [ms.take 1]).map tupN))), none, none]) ((ms.drop 1).map natI) ?_ ?_ ?_
  · walk_at "rl"
    rw [cut1D, ← List.map_drop]
    first | rfl | exact ⟨rfl, rfl⟩ | exact ⟨.inr (.inl rfl), rfl⟩
  · rintro i hi _ rfl
    rw [List.length_map] at hi
    have hi7 : i < 7 := by rw [List.length_drop] at hi; omega
    have e : ((ms.drop 1).map natI)[i]'(by rw [List.length_map]; exact hi) = natI (ms.drop 1)[i] := by simp
    have hfi := hfl i (by omega)
    have hss := fold_small (h := ms.length / 2) ((ms.drop 1).take i) [ms.take 1] 1 (fun s hs => by rw [List.mem_singleton.mp hs, List.length_take]; omega)
    rw [e, List.take_succ_eq_append_getElem hi, List.foldl_append, List.foldl_cons, List.foldl_nil]
    generalize (ms.drop 1)[i] = m at *
    generalize ((ms.drop 1).take i).foldl (stepH (ms.length / 2)) [ms.take 1] = found at *
    unfold l3_halves_k64_2
    walk_at "rl"
    refine wp_augLK rfl ?_
    refine wp_lcHK (xs := found.map tupN) rfl ?_
    refine wp_lcGK (ρ1 := [some (.val (tupN ms)), none, some (.val (natI m)), none]) tupN found (fun s => decide (s.length < ms.length / 2)) (fun s => tupN (s ++ [m])) (by simp) (by omega) ?_ ?_ ?_ ?_
    · walk_at "rl"
      first | rfl | exact ⟨.inl rfl, rfl⟩
    · intro s hs
      dsimp only [set_s, set_z]
      unfold t2_halves_k64_2
      walk_at "rl"
      rw [List.length_map, List.length_map, hh]
      exact ⟨decide_eq_decide.mpr Int.ofNat_lt, rfl⟩
    · intro s hs
      dsimp only [set_s, set_z]
      unfold e1_halves_k64_2
      walk_at "rl"
      have hsl := hss s hs
      rw [List.length_take] at hsl
      refine opq rfl rfl (ev_addT (by rw [List.length_map, List.length_singleton]; omega)) ?_
      walk_at "rl"
      first | rfl | exact ⟨by rw [tupN, List.map_append]; rfl, rfl⟩ | (show _ = _; rw [tupN, List.map_append]; rfl) | (rw [← List.map_singleton, ← List.map_append]; rfl) | (rw [← List.map_singleton, ← List.map_append])
    dsimp only [set_s, set_z, get_s, get_z]
    have hf2 := stepH_len (h := ms.length / 2) (m := m) (found := found)
    unfold stepH at hf2
    rw [List.length_append] at hf2
    refine ⟨_, _, _, rfl, rfl, by rw [List.length_map, List.length_map]; rw [List.length_map] at hf2; omega, by walk_at "set", ?_⟩
    walk_at "rl"
    unfold stepH
    rw [List.map_append, List.map_map]
    rfl
  · rintro _ rfl
    rw [List.length_map, List.take_length]
    have hfi := hfl 7 (Nat.le_refl _)
    have ht7 : (ms.drop 1).take 7 = ms.drop 1 := List.take_of_length_le (by rw [List.length_drop]; omega)
    rw [ht7] at hfi
    unfold halvesF at q
    generalize (ms.drop 1).foldl (stepH (ms.length / 2)) [ms.take 1] = found at *
    walk_at "rl"
    refine wp_lcHK (xs := found.map tupN) rfl ?_
    refine wp_lcGK (ρ1 := [some (.val (tupN ms)), none, none, none]) tupN found (fun s => decide (s.length = ms.length / 2)) tupN (by simp) (by omega) ?_ ?_ ?_ ?_
    · walk_at "rl"
      first | rfl | exact ⟨.inl rfl, rfl⟩
    · intro s hs
      dsimp only [set_s, set_z]
      unfold t5_halves_k64_2
      walk_at "rl"
      rw [List.length_map, List.length_map, hh]
      exact ⟨decide_eq_decide.mpr Int.ofNat_inj, rfl⟩
    · intro s hs
      dsimp only [set_s, set_z]
      unfold e4_halves_k64_2
      walk_at "rl"
      first | rfl | exact ⟨rfl, rfl⟩
    dsimp only [set_s, set_z, get_s, get_z]
    walk_at "rl"
    exact q
theorem sub_perm {s : List Nat} (hs : s.Sublist ms) (hn : ms.Nodup) : (s ++ ms.filter fun m => !decide (m ∈ s)).Perm ms := by
  have h1 : s.Perm (ms.filter fun m => decide (m ∈ s)) := by
    refine (List.perm_ext_iff_of_nodup (hs.nodup hn) (hn.filter _)).mpr fun a => ?_
    rw [List.mem_filter]
    exact ⟨fun h => ⟨hs.subset h, decide_eq_true h⟩, fun h => of_decide_eq_true h.2⟩
  exact (h1.append_right _).trans (List.filter_append_perm _ _)
theorem unlike_perm : ∀ (k : Nat) (ms : List Nat), ms.length = 2 ^ k → ms.Nodup → ∀ s ∈ unlikeF k ms, s.Perm ms
  | 0, ms, _, _, s, hs => by rw [List.mem_singleton.mp hs]
  | k + 1, ms, hl, hn, s, hs => by
    unfold unlikeF at hs
    obtain ⟨f, hf, hs⟩ := List.mem_flatMap.mp hs
    obtain ⟨one, h1, hs⟩ := List.mem_flatMap.mp hs
    obtain ⟨other, h2, rfl⟩ := List.mem_map.mp hs
    obtain ⟨s1, s2⟩ := halves_sub hf
    have lf : f.length = 2 ^ k := by rw [s2, hl, Nat.pow_succ]; omega
    have lo : (ms.filter fun m => !decide (m ∈ f)).length = 2 ^ k := by rw [other_len s1 hn, lf, hl, Nat.pow_succ]; omega
    exact ((unlike_perm k f lf (s1.nodup hn) one h1).append (unlike_perm k _ lo (hn.filter _) other h2)).trans (sub_perm s1 hn)
theorem of_unlike : ∀ (k m : Nat) (ms : List Nat) {Q : R → List Ob → Prop}, k ≤ 3 → ms.length = 2 ^ k → ms.Nodup → Q (.new (.lst ((unlikeF k ms).map tupN))) [] → Ret (d_unlike_places_k64_2 (k + 1 + m)) [.val (tupN ms)] Q
  | 0, m, ms, Q, hk, hl, hn, q => by
    have hln : (line : Nat) = 16777216 := rfl
    rw [show 0 + 1 + m = m + 1 by omega]
    show Ret (mkDen 7 (b_unlike_places_k64_2 (d_unlike_places_k64_2 m))) _ Q
    match ms, hl with
    | [p], _ =>
      refine ret_mkR (by repeat constructor) ?_
      unfold b_unlike_places_k64_2
      walk_at "ril"
      exact q
  | k + 1, m, ms, Q, hk, hl, hn, q => by
    have hln : (line : Nat) = 16777216 := rfl
    have h8 : 2 ^ (k + 1) ≤ 8 := Nat.pow_le_pow_right (n := 2) (by decide) hk
    rw [show k + 1 + 1 + m = (k + 1 + m) + 1 by omega]
    show Ret (mkDen 7 (b_unlike_places_k64_2 (d_unlike_places_k64_2 (k + 1 + m)))) _ Q
    refine ret_mkR (by repeat constructor) ?_
    unfold b_unlike_places_k64_2
    walk_at "ril"
    rw [List.length_map, hl, decide_eq_false (by have := Nat.two_pow_pos k; rw [Nat.pow_succ]; omega)]
    refine ⟨fun z => Bool.noConfusion z, fun _ => ?_⟩
    walk_at "rl"
    refine wp_for (wp_seqI ?_)
    walk_at "rl"
    refine of_halves hl (by omega) ?_
    walk_at "rl"
    refine wp_loopK (fun i ρ => ρ = [some (.val (tupN ms)), some (.own (.lst ((((halvesF ms).take i).flatMap fun f => (unlikeF k f).flatMap fun one => (unlikeF k (ms.filter fun m => !decide (m ∈ f))).map fun other => one ++ other).map tupN))), none, none, none, none, none]) rfl ?_ ?_
    · rintro i hi _ rfl
      rw [List.length_map] at hi
      have e : ((halvesF ms).map tupN)[i]'(by rw [List.length_map]; exact hi) = tupN (halvesF ms)[i] := by simp
      obtain ⟨s1, s2⟩ := halves_sub (List.getElem_mem hi)
      have ht := List.take_succ_eq_append_getElem hi
      have hcat : ((((halvesF ms).take (i + 1)).flatMap fun f => (unlikeF k f).flatMap fun one => (unlikeF k (ms.filter fun m => !decide (m ∈ f))).map fun other => one ++ other)).length ≤ 2 ^ 17 := by
        have htot := unlike_len (k + 1) ms hk hl hn
        have h17 : 2 ^ bU (k + 1) ≤ 2 ^ 17 := Nat.pow_le_pow_right (by decide) (by
          have : ∀ k, k ≤ 2 → bU (k + 1) ≤ 17 := by decide
          exact this k (by omega))
        unfold unlikeF at htot
        rw [← List.take_append_drop (i + 1) (halvesF ms), List.flatMap_append, List.length_append] at htot
        omega
      rw [e, ht, List.flatMap_append, List.flatMap_cons, List.flatMap_nil, List.append_nil]
      rw [ht, List.flatMap_append, List.flatMap_cons, List.flatMap_nil, List.append_nil] at hcat
      generalize (halvesF ms)[i] = f at *
      have lf : f.length = 2 ^ k := by rw [s2, hl, Nat.pow_succ]; omega
      have lo : (ms.filter fun m => !decide (m ∈ f)).length = 2 ^ k := by rw [other_len s1 hn, lf, hl, Nat.pow_succ]; omega
      unfold l5_unlike_places_k64_2
      walk_at "rl"
      obtain ⟨acc, hacc⟩ : ∃ acc, acc = (((halvesF ms).take i).flatMap fun f => (unlikeF k f).flatMap fun one => (unlikeF k (ms.filter fun m => !decide (m ∈ f))).map fun other => one ++ other) := ⟨_, rfl⟩
      rw [← hacc]
      rw [← hacc] at hcat
      refine wp_lcGK (ρ1 := [some (.val (tupN ms)), some (.own (.lst (acc.map tupN))), some (.val (tupN f)), none, none, none, none]) natI ms (fun m => !decide (m ∈ f)) natI (by simp) (by omega) ?_ ?_ ?_ ?_
      · walk_at "rl"
        first | rfl | exact ⟨.inr (.inl rfl), rfl⟩
      · intro x hx
        dsimp only [set_s, set_z]
        unfold t2_unlike_places_k64_2
        walk_at "rl"
        refine opq rfl rfl ev_notN ?_
        walk_at "rl"
        first | rfl | exact ⟨rfl, rfl⟩
      · intro x hx
        dsimp only [set_s, set_z]
        unfold e1_unlike_places_k64_2
        walk_at "rl"
        first | rfl | exact ⟨rfl, rfl⟩
      walk_at "rl"
      obtain ⟨oth, hoth⟩ : ∃ oth, oth = ms.filter (fun m => !decide (m ∈ f)) := ⟨_, rfl⟩
      rw [← hoth]
      rw [← hoth] at lo hcat
      have hno : oth.Nodup := hoth ▸ hn.filter _
      have lu1 := unlike_len k f (by omega) lf (s1.nodup hn)
      have lu2 := unlike_len k oth (by omega) lo hno
      have hbU : bU k ≤ 5 := by
        have : ∀ k, k ≤ 2 → bU k ≤ 5 := by decide
        exact this k (by omega)
      have h32 : 2 ^ bU k ≤ 32 := Nat.pow_le_pow_right (n := 2) (by decide) hbU
      refine wp_augLK rfl ?_
      refine wp_lc2 tupN (fun done acc2 ρ => acc2 = (done.flatMap fun one => (unlikeF k oth).map fun other => one ++ other).map tupN ∧ ∃ u v, isRef u = false ∧ isRef v = false ∧ ρ = [some (.val (tupN ms)), some (.own (.lst (acc.map tupN))), some (.val (tupN f)), some (.val (tupN oth)), u, v, none]) ?_
      walk_at "rl"
      refine of_unlike k m f (by omega) lf (s1.nodup hn) ?_
      walk_at "rl"
      refine ⟨by omega, ⟨rfl, none, none, rfl, rfl, rfl⟩, ?_, ?_⟩
      · rintro done y rest acc2 _ e ⟨rfl, u, v, hu, hv, rfl⟩
        have hy : y ∈ unlikeF k f := by rw [e]; simp
        have yl := (unlike_perm k f lf (s1.nodup hn) y hy).length_eq
        refine lc2qY rfl ?_
        dsimp only [wipe, set_s, set_z]
        walk_at "rl"
        unfold i4_unlike_places_k64_2
        walk_at "rl"
        refine of_unlike k m oth (by omega) lo hno ?_
        walk_at "rl"
        refine inq tupN (fun done2 acc3 ρ => acc3 = (done2.map fun other => y ++ other).map tupN ∧ ∃ v, isRef v = false ∧ ρ = [some (.val (tupN ms)), some (.own (.lst (acc.map tupN))), some (.val (tupN f)), some (.val (tupN oth)), some (.val (tupN y)), v, none]) (unlikeF k oth) (by omega) ⟨rfl, none, rfl, rfl⟩ ?_ ?_
        · rintro done2 z rest2 acc3 _ e2 ⟨rfl, v, hv, rfl⟩
          have hz : z ∈ unlikeF k oth := by rw [e2]; simp
          have zl := (unlike_perm k oth lo hno z hz).length_eq
          refine lcqY rfl ?_
          dsimp only [wipe, set_s, set_z]
          walk_at "rl"
          unfold e3_unlike_places_k64_2
          walk_at "rl"
          refine opq rfl rfl (ev_addT (by rw [List.length_map, List.length_map]; omega)) ?_
          walk_at "rl"
          first | exact ⟨_, rfl, rfl⟩ | rfl
        · rintro acc3 _ ⟨rfl, v, hv, rfl⟩
          exact ⟨by rw [List.flatMap_append, List.flatMap_cons, List.flatMap_nil, List.append_nil, List.map_append], _, v, rfl, hv, rfl⟩
      · rintro acc2 _ ⟨rfl, u, v, hu, hv, rfl⟩
        rw [List.length_append] at hcat
        refine ⟨by rw [List.length_map]; omega, ?_⟩
        dsimp only [back, set_s, set_z, get_s, get_z]
        refine ⟨_, _, _, rfl, rfl, by rw [List.length_map, List.length_map]; omega, by walk_at "set", ?_⟩
        walk_at "rl"
        rw [List.map_append]
    · rintro _ rfl
      rw [List.length_map, List.take_length]
      walk_at "rl"
      exact q
end
end Py
namespace Py
open PySem D
local macro_rules
  | `(tactic| walk_at "w") => `(tactic| with_reducible first
    | refine seq_nx ?_ | refine seq_rt ?_ | refine seq_bk ?_ | refine seq_ct ?_ | refine wp_seq ?_ | refine wp_asg ?_ | refine wp_next ?_ | refine wp_ret ?_ | refine wp_retN ?_ | refine wp_brk ?_ | refine wp_cont ?_ | refine wp_expr ?_ | refine wp_op ?_ | refine wp_un ?_ | refine wp_c ?_
    | refine unB ?_ | refine wp_truB ?_ | refine wp_and ?_ | refine wp_or ?_ | refine wp_not ?_ | refine wp_ifE ?_ | refine wp_tup ?_ | refine wp_lst ?_ | refine wp_lcons ?_ | refine wp_lnil ?_ | refine frzV ?_ | refine frzN ?_ | refine wp_frz ?_ | refine wp_sl ?_ | refine wp_onone ?_ | refine wp_osome ?_
    | refine wp_anil ?_ | refine wp_av ?_ | refine wp_andV ?_ | refine wp_orV ?_ | refine wp_notV ?_ | refine wp_fgtR ?_ | refine turn_nx ?_ | refine turn_rt ?_ | refine turn_bk ?_ | refine turn_ct ?_ | refine fgt_rt ?_ | refine wp_par ?_ | refine wp_chain ?_ | refine wp_seqI ?_)
local macro_rules
  | `(tactic| walk_at "put") => `(tactic| focus ((repeat apply PutR.s); first | exact PutR.z rfl | exact PutR.z (by assumption)))
local macro_rules
  | `(tactic| walk_at "set") => `(tactic| focus ((repeat apply SetR.s); first | exact SetR.o | exact SetR.r))
local macro_rules
  | `(tactic| walk_at "fgt") => `(tactic| focus (repeat first | exact FgtsR.nil | exact FgtR.k | exact FgtR.z rfl | exact FgtR.z (by assumption) | apply FgtR.s | apply FgtsR.cons))
local macro_rules
  | `(tactic| walk_at "x") => `(tactic| first
    | ((with_reducible apply wp_varV); (focus exact rfl)) | ((with_reducible apply wp_varO); (focus exact rfl)) | ((with_reducible apply wp_varR); (focus exact rfl))
    | ((with_reducible apply opq); (focus exact rfl); (focus exact rfl); (focus (first | exact ev_eqI | exact ev_neI | exact ev_ltI | exact ev_leI | exact ev_gtI | exact ev_geI | exact ev_in2 | exact ev_in2n | exact ev_in4n | exact ev_isT | exact ev_isF | exact ev_isnT | exact ev_isnF | exact ev_eqQ0 | exact ev_eqQ1 | exact ev_eqQ | exact ev_neQ | exact ev_strT | exact ev_strF n1 | exact ev_strF n2 | exact ev_strF n3 | exact ev_strF n4 | exact ev_strF n5 | exact ev_strF n6 | exact rfl)))
    | ((with_reducible apply unq); (focus exact rfl); (focus exact rfl))
    | ((with_reducible first | apply putqV | apply putqN); walk_at "put")
    | ((with_reducible apply putqB); (focus exact rfl); (focus exact rfl); walk_at "put"; walk_at "put")
    | ((with_reducible apply putq2); walk_at "put"; walk_at "put")
    | ((with_reducible apply parq); walk_at "put"; walk_at "put")
    | ((with_reducible apply wp_callR); (focus (repeat first | exact RefsR.nil | apply RefsR.v | apply RefsR.r)); (focus decide))
    | ((with_reducible apply wp_ar); (focus exact rfl))
    | ((with_reducible apply fin_rt); (focus exact rfl); (focus exact rfl))
    | ((with_reducible apply fin_nx); (focus exact rfl))
    | ((with_reducible apply wp_appendR); (focus exact rfl))
    | (with_reducible refine ⟨_, rfl, ?_⟩) | (with_reducible refine ⟨_, .inl rfl, ?_⟩) | (with_reducible refine ⟨_, .inr (.inl rfl), ?_⟩) | (with_reducible refine ⟨_, .inr (.inr rfl), ?_⟩)
    | (with_reducible apply callq0) | ((with_reducible apply frzB); (focus exact rfl); (focus exact rfl); walk_at "put")
    | ((with_reducible apply callq1); walk_at "set")
    | ((with_reducible apply callq2); walk_at "set"; walk_at "set")
    | ((with_reducible first | apply fgt_nx | apply fgt_bk | apply fgt_ct); walk_at "fgt")
    | ((with_reducible apply brT); (focus exact rfl)) | ((with_reducible apply brF); (focus exact rfl)))
local macro_rules
  | `(tactic| walk_at "r") => `(tactic| repeat first | walk_at "w" | walk_at "x")
local macro_rules
  | `(tactic| walk_at "ri") => `(tactic| repeat first | walk_at "w" | walk_at "x" | (with_reducible refine wp_if ?_))
local macro_rules
  | `(tactic| walk_at "app") => `(tactic| ((with_reducible apply appq); (focus exact rfl); (focus ((try simp only [List.length_map, List.length_nil, List.length_cons, List.length_append]); unfold line; omega)); walk_at "set"))
local macro_rules
  | `(tactic| walk_at "mul") => `(tactic| ((refine opq rfl rfl (ev_mul ?_) ?_); (focus (apply mulT <;> omega))))
local macro_rules
  | `(tactic| walk_at "rm") => `(tactic| repeat first | walk_at "w" | walk_at "x" | walk_at "mul")
local macro_rules
  | `(tactic| walk_at "len") => `(tactic| (refine And.intro ?_ ?_; (focus (simp [line]; done))))
local macro_rules
  | `(tactic| walk_at "rl") => `(tactic| repeat first | walk_at "w" | walk_at "x" | walk_at "len")
local macro_rules
  | `(tactic| walk_at "ril") => `(tactic| repeat first | walk_at "w" | walk_at "x" | walk_at "len" | (with_reducible refine wp_if ?_))
/-! QLg: the best of a row of places. -/
section
variable {α : Type} {le : α → α → Bool}
def insG (le : α → α → Bool) (x : α) : List α → List α
  | [] => [x]
  | y :: l => if le x y then x :: y :: l else y :: insG le x l
def isG (le : α → α → Bool) : List α → List α
  | [] => []
  | x :: l => insG le x (isG le l)
theorem insG_perm (x : α) : ∀ l : List α, (insG le x l).Perm (x :: l)
  | [] => .refl _
  | y :: l => by
    unfold insG
    split
    · exact .refl _
    · exact ((insG_perm x l).cons y).trans (List.Perm.swap x y l)
theorem isG_perm : ∀ l : List α, (isG le l).Perm l
  | [] => .refl _
  | x :: l => (insG_perm x _).trans ((isG_perm l).cons x)
theorem insG_sorted (tot : ∀ a b, (le a b || le b a) = true) (tr : ∀ a b c, le a b = true → le b c = true → le a c = true) (x : α) : ∀ l : List α, l.Pairwise (fun a b => le a b = true) → (insG le x l).Pairwise fun a b => le a b = true
  | [], _ => List.pairwise_singleton _ _
  | y :: l, h => by
    obtain ⟨h1, h2⟩ := List.pairwise_cons.mp h
    unfold insG
    split
    · rename_i c
      refine List.pairwise_cons.mpr ⟨fun z hz => ?_, h⟩
      rcases List.mem_cons.mp hz with rfl | hz
      · exact c
      · exact tr _ _ _ c (h1 z hz)
    · rename_i c
      refine List.pairwise_cons.mpr ⟨fun z hz => ?_, insG_sorted tot tr x l h2⟩
      have hz' := (insG_perm x l).mem_iff.mp hz
      rcases List.mem_cons.mp hz' with rfl | hz'
      · have := tot z y
        rw [Bool.or_eq_true] at this
        exact this.resolve_left c
      · exact h1 z hz'
theorem isG_sorted (tot : ∀ a b, (le a b || le b a) = true) (tr : ∀ a b c, le a b = true → le b c = true → le a c = true) : ∀ l : List α, (isG le l).Pairwise fun a b => le a b = true
  | [] => List.Pairwise.nil
  | x :: l => insG_sorted tot tr x _ (isG_sorted tot tr l)
theorem snoc_ind {P : List α → Prop} (nil : P []) (snoc : ∀ l x, P l → P (l ++ [x])) (l : List α) : P l := by
  have h : ∀ l : List α, P l.reverse := fun l => by
    induction l with
    | nil => exact nil
    | cons x l ih => rw [List.reverse_cons]; exact snoc _ _ ih
  have := h l.reverse
  rwa [List.reverse_reverse] at this
/-- the first one with the greatest value -/
def stepB (f : α → Rat) (b : Option α) (x : α) : Option α := match b with
  | none => some x
  | some y => if f y < f x then some x else some y
def bestO (f : α → Rat) (l : List α) : Option α := l.foldl (stepB f) none
theorem bestO_snoc {f : α → Rat} {l : List α} {x : α} : bestO f (l ++ [x]) = stepB f (bestO f l) x := by
  unfold bestO
  rw [List.foldl_append]
  rfl
theorem bestO_le {f : α → Rat} {l : List α} : ∀ x ∈ l, ∃ y, bestO f l = some y ∧ f x ≤ f y := by
  induction l using snoc_ind with
  | nil => intro x hx; cases hx
  | snoc l z ih =>
    intro x hx
    rw [bestO_snoc]
    rcases List.mem_append.mp hx with hx | hx
    · obtain ⟨y, e, h⟩ := ih x hx
      rw [e]
      unfold stepB
      dsimp only
      split
      · rename_i c; exact ⟨z, rfl, by grind⟩
      · exact ⟨y, rfl, h⟩
    · rw [List.mem_singleton.mp hx]
      cases e : bestO f l with
      | none => exact ⟨z, rfl, Rat.le_refl⟩
      | some y =>
        unfold stepB
        dsimp only
        split
        · exact ⟨z, rfl, Rat.le_refl⟩
        · rename_i c; exact ⟨y, rfl, by grind⟩
theorem bestO_mem {f : α → Rat} {l : List α} {y : α} (h : bestO f l = some y) : y ∈ l := by
  induction l using snoc_ind generalizing y with
  | nil => cases h
  | snoc l z ih =>
    rw [bestO_snoc] at h
    cases e : bestO f l with
    | none => rw [e] at h; cases h; simp
    | some w =>
      rw [e] at h
      unfold stepB at h
      dsimp only at h
      split at h
      · cases h; simp
      · cases h; exact List.mem_append_left _ (ih e)
theorem bestO_skip {f : α → Rat} {p : α → Bool} : ∀ {l : List α}, (∀ pre x post, l = pre ++ x :: post → p x = false → ∃ s ∈ pre, f x = f s) → bestO f l = bestO f (l.filter p) := fun {l} h => by
  induction l using snoc_ind with
  | nil => rfl
  | snoc l z ih =>
    have ih' := ih fun pre x post e hp => h pre x (post ++ [z]) (by rw [e]; simp) hp
    rw [bestO_snoc, List.filter_append]
    cases c : p z with
    | true =>
      have : [z].filter p = [z] := by simp [c]
      rw [this, bestO_snoc, ih']
    | false =>
      have : [z].filter p = [] := by simp [c]
      rw [this, List.append_nil, ← ih']
      obtain ⟨s, hs, e⟩ := h l z [] rfl c
      obtain ⟨y, e2, h2⟩ := bestO_le (f := f) s hs
      rw [e2]
      unfold stepB
      dsimp only
      rw [if_neg (by rw [e]; exact Rat.not_lt.mpr h2)]
end
def castL (s : List Nat) : List Int := s.map Int.ofNat
theorem tupN_V (s : List Nat) : tupN s = tupV (castL s) := by unfold castL tupV; rw [List.map_map]; rfl
def lexN (a b : List Nat) : Bool := lexLe (castL a) (castL b)
def SL (k : Nat) : List (List Nat) := isG lexN (unlikeF k (List.range (2 ^ k)))
theorem SL_sort (k : Nat) : tsort ((unlikeF k (List.range (2 ^ k))).map castL) = (SL k).map castL := by
  refine tsort_eq ((isG_perm _).map _) ?_
  rw [List.pairwise_map]
  exact isG_sorted (le := lexN) (fun a b => lexLe_total (castL a) (castL b)) (fun a b c => lexLe_tr (castL a) (castL b) (castL c)) _
theorem tupsI_map (nss : List (List Int)) : (nss.map tupV).mapM tupI? = some nss := by
  induction nss with
  | nil => rfl
  | cons n nss ih =>
    have h : tupI? (tupV n) = some n := by
      show ints? (n.map .int) = _
      exact ints_map n
    simp [List.mapM_cons, h, ih]
theorem ev_sortN {L : List (List Nat)} (h : ∀ s ∈ L, s ≠ []) : fSortedT (.ob (.lst (L.map tupN))) = some (.new (.lst ((tsort (L.map castL)).map tupV))) := by
  have e : L.map tupN = (L.map castL).map tupV := by rw [List.map_map]; exact List.map_congr_left fun s _ => tupN_V s
  have : (L.map castL).all (fun ns => !ns.isEmpty) = true := List.all_eq_true.mpr fun ns hn => by
    obtain ⟨s, hs, rfl⟩ := List.mem_map.mp hn
    cases s with
    | nil => exact absurd rfl (h _ hs)
    | cons => rfl
  rw [e]
  simp only [fSortedT, Ct.lst?, Option.bind_some, tupsI_map, this, if_true]
theorem SL_mem {k : Nat} {s : List Nat} (h : s ∈ SL k) : s.Perm (List.range (2 ^ k)) := unlike_perm k _ List.length_range List.nodup_range s ((isG_perm _).mem_iff.mp h)
theorem wp_tupR1K {a : M} {ρ ρ1 : Env} {Q : R → Env → Prop} (n : Nat) (hl : n ≤ line) (h : Wp a ρ fun x ρ' => look x ρ' = some (.pv (.int (n : Int))) ∧ ρ' = ρ1) (q : Q (.val (tupN (List.range n))) ρ1) : Wp (mTupR1 a) ρ Q := by
  obtain ⟨x, ρ', e1, e2, rfl⟩ := h
  refine ⟨_, _, ?_, q⟩
  have e0 : rangeL 0 ((n : Int)).toNat = (List.range n).map natI := by
    rw [Int.toNat_natCast]
    unfold rangeL
    exact List.map_congr_left fun k _ => by simp [natI]
  unfold mTupR1
  rw [e1]
  simp only [Option.bind_some, e2, intOf]
  rw [if_pos ⟨by exact_mod_cast hl, by omega⟩, e0]

def bstV (f : List Nat → Rat) : Option (List Nat) → PV
  | none => .none
  | some s => .tuple [rq (f s), tupN s]
section
variable {Q : R → List Ob → Prop} {n k pl : Nat} {C : Nat → Nat → Rat}
abbrev fW (C : Nat → Nat → Rat) (k pl : Nat) (s : List Nat) : Rat := lk ((mkT k s).wl C) pl
theorem fW_bits (hC : Lad n 97 C) (hk : k ≤ 3) (hn : n = 2 ^ k) (hpl : pl < n) {s : List Nat} (hs : s.Perm (List.range n)) : Bq 3000 (fW C k pl s) := by
  have hl : s.length = 2 ^ k := by rw [hs.length_eq, List.length_range, hn]
  obtain ⟨_, _, _, hb⟩ := of_winners hC k 0 s (Q := fun _ _ => ∀ z ∈ (mkT k s).wl C, Bq (bbW k) z.2) hk hl (fun p h => List.mem_range.mp (hs.mem_iff.mp h)) (fun h => h)
  have hf := wl_fstk (C := C) hl
  have hbk : bbW k ≤ 3000 := by
    have : ∀ k, k ≤ 3 → bbW k ≤ 3000 := by decide
    exact this k hk
  unfold fW
  obtain ⟨z, hz, e⟩ := List.mem_map.mp (show pl ∈ ((mkT k s).wl C).map (·.1) by rw [hf]; exact hs.mem_iff.mpr (List.mem_range.mpr hpl))
  rw [← e, lk_mem (by rw [hf]; exact hs.nodup_iff.mpr List.nodup_range) hz]
  exact (hb z hz).mono hbk
theorem SL_len {k : Nat} (hk : k ≤ 3) : (SL k).length ≤ 2 ^ 17 := by
  rw [SL, (isG_perm _).length_eq]
  refine Nat.le_trans (unlike_len k _ hk List.length_range List.nodup_range) (Nat.pow_le_pow_right (by decide) ?_)
  have : ∀ k, k ≤ 3 → bU k ≤ 17 := by decide
  exact this k hk
theorem of_best_places (hC : Lad n 97 C) (hk : k ≤ 3) (hn : n = 2 ^ k) (hpl : pl < n) (q : Q (.val (bstV (fW C k pl) (bestO (fW C k pl) (SL k)))) []) : Ret d_best_places_k64 [.val (.tuple (ladV n C)), .val (natI pl)] Q := by
  have hln : (line : Nat) = 16777216 := rfl
  have h8 : 2 ^ k ≤ 8 := Nat.pow_le_pow_right (n := 2) (by decide) hk
  have hlv : (ladV n C).length = n := by simp [ladV]
  have hSl := SL_len hk
  refine ret_mkR (by repeat constructor) ?_
  unfold b_best_places_k64
  walk_at "rl"
  refine wp_for (wp_seqI ?_)
  walk_at "rl"
  refine wp_tupR1K (ρ1 := [some (.val (.tuple (ladV n C))), some (.val (natI pl)), some (.val .none), none, none]) n (by omega) ?_ ?_
  · walk_at "rl"
    rw [hlv]
    exact ⟨rfl, rfl⟩
  walk_at "rl"
  rw [show (40 : Nat) = k + 1 + (39 - k) by omega]
  refine of_unlike k (39 - k) (List.range n) hk (by rw [List.length_range, hn]) List.nodup_range ?_
  walk_at "rl"
  have hsort := SL_sort k
  rw [← hn] at hsort
  have hmem := @SL_mem k
  rw [← hn] at hmem
  refine unq rfl (ev_sortN (L := unlikeF k (List.range n)) fun s hs e => ?_) ?_
  · have := (unlike_perm k (List.range n) (by rw [List.length_range, hn]) List.nodup_range s hs).length_eq
    rw [e, List.length_range, hn] at this
    have := Nat.two_pow_pos k
    simp only [List.length_nil] at *
    omega
  rw [hsort, show ((SL k).map castL).map tupV = (SL k).map tupN by rw [List.map_map]; exact List.map_congr_left fun s _ => (tupN_V s).symm]
  walk_at "rl"
  generalize SL k = S at *
  refine wp_loopK (fun i ρ => ρ = [some (.val (.tuple (ladV n C))), some (.val (natI pl)), some (.val (bstV (fW C k pl) (bestO (fW C k pl) (S.take i)))), none, none]) (by rw [List.take_zero]; rfl) ?_ ?_
  · rintro i hi _ rfl
    rw [List.length_map] at hi
    have e : (S.map tupN)[i]'(by rw [List.length_map]; exact hi) = tupN S[i] := by simp
    have hsi := hmem (List.getElem_mem hi)
    have hT : ∀ y ∈ S.take i, y.Perm (List.range n) := fun y hy => hmem (List.mem_of_mem_take hy)
    rw [e, List.take_succ_eq_append_getElem hi, bestO_snoc]
    generalize S[i] = s at *
    generalize S.take i = T at *
    unfold l1_best_places_k64
    walk_at "rl"
    refine of_to_win hC hk hn hsi fun _ => ?_
    walk_at "rl"
    refine opq rfl rfl (ev_ix (a := (pl : Int)) (.inl rfl) (atI_nat (rowP_at hpl))) ?_
    walk_at "rl"
    cases eb : bestO (fW C k pl) T with
    | none =>
      walk_at "ril"
      rfl
    | some y =>
      have hy := hT y (bestO_mem eb)
      walk_at "ril"
      refine of_lessQ (fW_bits hC hk hn hpl hy) (fW_bits hC hk hn hpl hsi) (by omega) ?_
      walk_at "ril"
      unfold stepB
      dsimp only
      refine ⟨fun h => ?_, fun h => ?_⟩
      · rw [if_pos (of_decide_eq_true h)]
        walk_at "ril"
        rfl
      · rw [if_neg (of_decide_eq_false h)]
        walk_at "ril"
        rfl
  · rintro _ rfl
    rw [List.length_map, List.take_length]
    walk_at "rl"
    exact q
end
end Py
namespace Py
open PySem D
local macro_rules
  | `(tactic| walk_at "w") => `(tactic| with_reducible first
    | refine seq_nx ?_ | refine seq_rt ?_ | refine seq_bk ?_ | refine seq_ct ?_ | refine wp_seq ?_ | refine wp_asg ?_ | refine wp_next ?_ | refine wp_ret ?_ | refine wp_retN ?_ | refine wp_brk ?_ | refine wp_cont ?_ | refine wp_expr ?_ | refine wp_op ?_ | refine wp_un ?_ | refine wp_c ?_
    | refine unB ?_ | refine wp_truB ?_ | refine wp_and ?_ | refine wp_or ?_ | refine wp_not ?_ | refine wp_ifE ?_ | refine wp_tup ?_ | refine wp_lst ?_ | refine wp_lcons ?_ | refine wp_lnil ?_ | refine frzV ?_ | refine frzN ?_ | refine wp_frz ?_ | refine wp_sl ?_ | refine wp_onone ?_ | refine wp_osome ?_
    | refine wp_anil ?_ | refine wp_av ?_ | refine wp_andV ?_ | refine wp_orV ?_ | refine wp_notV ?_ | refine wp_fgtR ?_ | refine turn_nx ?_ | refine turn_rt ?_ | refine turn_bk ?_ | refine turn_ct ?_ | refine fgt_rt ?_ | refine wp_par ?_ | refine wp_chain ?_ | refine wp_seqI ?_)
local macro_rules
  | `(tactic| walk_at "put") => `(tactic| focus ((repeat apply PutR.s); first | exact PutR.z rfl | exact PutR.z (by assumption)))
local macro_rules
  | `(tactic| walk_at "set") => `(tactic| focus ((repeat apply SetR.s); first | exact SetR.o | exact SetR.r))
local macro_rules
  | `(tactic| walk_at "fgt") => `(tactic| focus (repeat first | exact FgtsR.nil | exact FgtR.k | exact FgtR.z rfl | exact FgtR.z (by assumption) | apply FgtR.s | apply FgtsR.cons))
local macro_rules
  | `(tactic| walk_at "x") => `(tactic| first
    | ((with_reducible apply wp_varV); (focus exact rfl)) | ((with_reducible apply wp_varO); (focus exact rfl)) | ((with_reducible apply wp_varR); (focus exact rfl))
    | ((with_reducible apply opq); (focus exact rfl); (focus exact rfl); (focus (first | exact ev_eqI | exact ev_neI | exact ev_ltI | exact ev_leI | exact ev_gtI | exact ev_geI | exact ev_in2 | exact ev_in2n | exact ev_in4n | exact ev_isT | exact ev_isF | exact ev_isnT | exact ev_isnF | exact ev_eqQ0 | exact ev_eqQ1 | exact ev_eqQ | exact ev_neQ | exact ev_strT | exact ev_strF n1 | exact ev_strF n2 | exact ev_strF n3 | exact ev_strF n4 | exact ev_strF n5 | exact ev_strF n6 | exact rfl)))
    | ((with_reducible apply unq); (focus exact rfl); (focus exact rfl))
    | ((with_reducible first | apply putqV | apply putqN); walk_at "put")
    | ((with_reducible apply putqB); (focus exact rfl); (focus exact rfl); walk_at "put"; walk_at "put")
    | ((with_reducible apply putq2); walk_at "put"; walk_at "put")
    | ((with_reducible apply parq); walk_at "put"; walk_at "put")
    | ((with_reducible apply wp_callR); (focus (repeat first | exact RefsR.nil | apply RefsR.v | apply RefsR.r)); (focus decide))
    | ((with_reducible apply wp_ar); (focus exact rfl))
    | ((with_reducible apply fin_rt); (focus exact rfl); (focus exact rfl))
    | ((with_reducible apply fin_nx); (focus exact rfl))
    | ((with_reducible apply wp_appendR); (focus exact rfl))
    | (with_reducible refine ⟨_, rfl, ?_⟩) | (with_reducible refine ⟨_, .inl rfl, ?_⟩) | (with_reducible refine ⟨_, .inr (.inl rfl), ?_⟩) | (with_reducible refine ⟨_, .inr (.inr rfl), ?_⟩)
    | (with_reducible apply callq0) | ((with_reducible apply frzB); (focus exact rfl); (focus exact rfl); walk_at "put")
    | ((with_reducible apply callq1); walk_at "set")
    | ((with_reducible apply callq2); walk_at "set"; walk_at "set")
    | ((with_reducible first | apply fgt_nx | apply fgt_bk | apply fgt_ct); walk_at "fgt")
    | ((with_reducible apply brT); (focus exact rfl)) | ((with_reducible apply brF); (focus exact rfl)))
local macro_rules
  | `(tactic| walk_at "r") => `(tactic| repeat first | walk_at "w" | walk_at "x")
local macro_rules
  | `(tactic| walk_at "ri") => `(tactic| repeat first | walk_at "w" | walk_at "x" | (with_reducible refine wp_if ?_))
local macro_rules
  | `(tactic| walk_at "app") => `(tactic| ((with_reducible apply appq); (focus exact rfl); (focus ((try simp only [List.length_map, List.length_nil, List.length_cons, List.length_append]); unfold line; omega)); walk_at "set"))
local macro_rules
  | `(tactic| walk_at "mul") => `(tactic| ((refine opq rfl rfl (ev_mul ?_) ?_); (focus (apply mulT <;> omega))))
local macro_rules
  | `(tactic| walk_at "rm") => `(tactic| repeat first | walk_at "w" | walk_at "x" | walk_at "mul")
local macro_rules
  | `(tactic| walk_at "len") => `(tactic| (refine And.intro ?_ ?_; (focus (simp [line]; done))))
local macro_rules
  | `(tactic| walk_at "rl") => `(tactic| repeat first | walk_at "w" | walk_at "x" | walk_at "len")
local macro_rules
  | `(tactic| walk_at "ril") => `(tactic| repeat first | walk_at "w" | walk_at "x" | walk_at "len" | (with_reducible refine wp_if ?_))
/-! QLh: all orders, and the best of them. -/
def OwnOr (xs : List PV) (v : Sl) : Prop := v = .own (.lst xs) ∨ v = .val (.list xs)
def rowO (n : Nat) (row : List Nat) : List (List Nat) := ((List.range n).filter fun x => !decide (x ∈ row)).map fun x => row ++ [x]
def ordF (n : Nat) : Nat → List (List Nat)
  | 0 => [[]]
  | j + 1 => (ordF n j).flatMap (rowO n)
section
variable {Q : R → List Ob → Prop} {n k pl : Nat} {C : Nat → Nat → Rat}
theorem ord_mem : ∀ {j : Nat} {s : List Nat}, s ∈ ordF n j → s.length = j
  | 0, s, h => by rw [List.mem_singleton.mp h]; rfl
  | j + 1, s, h => by
    obtain ⟨r, h1, h2⟩ := List.mem_flatMap.mp h
    obtain ⟨x, _, rfl⟩ := List.mem_map.mp h2
    rw [List.length_append, ord_mem h1, List.length_singleton]
theorem rowO_len {row : List Nat} : (rowO n row).length ≤ n := by
  unfold rowO
  rw [List.length_map]
  refine Nat.le_trans (List.length_filter_le _ _) ?_
  rw [List.length_range]
  exact Nat.le_refl _
theorem flat_len {rows : List (List Nat)} : (rows.flatMap (rowO n)).length ≤ rows.length * n := by
  induction rows with
  | nil => simp
  | cons r rows ih =>
    rw [List.flatMap_cons, List.length_append, List.length_cons, Nat.add_mul, Nat.one_mul]
    have := rowO_len (n := n) (row := r)
    omega
theorem ord_len (hn : n ≤ 4) : ∀ j, (ordF n j).length ≤ 4 ^ j
  | 0 => Nat.le_refl 1
  | j + 1 => by
    unfold ordF
    refine Nat.le_trans flat_len ?_
    rw [Nat.pow_succ]
    exact Nat.mul_le_mul (ord_len hn j) hn
theorem of_orders (hn : n ≤ 4) (q : Q (.new (.lst ((ordF n n).map tupN))) [] ) (q' : Q (.val (.list ((ordF n n).map tupN))) []) : Ret d_law_orders [.val (.int (n : Int))] Q := by
  have hln : (line : Nat) = 16777216 := rfl
  refine ret_mkR (by repeat constructor) ?_
  unfold b_law_orders
  walk_at "rl"
  refine wp_forN (fun j ρ => ∃ v1, OwnOr ((ordF n j).map tupN) v1 ∧ ρ = [some (.val (.int (n : Int))), some v1, none, none, none, none]) n ?_ ?_ ?_
  · walk_at "rl"
    exact ⟨rfl, by omega, _, .inl rfl, rfl⟩
  · rintro j _ hj ⟨v1, hv, rfl⟩
    have hlen := ord_len hn j
    have hm := @ord_mem n j
    have h256 : 4 ^ j ≤ 256 := Nat.pow_le_pow_right (n := 4) (by decide) (show j ≤ 4 by omega)
    unfold l3_law_orders
    have key : ∀ QS : Fl → Env → Prop, QS .nx [some (.val (.int (n : Int))), some (.val (.list ((ordF n j).map tupN))), some (.val (.int (j : Int))), some (.own (.lst (((ordF n j).flatMap (rowO n)).map tupN))), none, none] → Wp (sFor (iSeq (mFrz (mVar 1))) (gName 4) l2_law_orders) [some (.val (.int (n : Int))), some v1, some (.val (.int (j : Int))), some (.own (.lst [])), none, none] QS := by
      intro QS q
      generalize ordF n j = rows at *
      refine wp_forL (fun i ρ => ρ = [some (.val (.int (n : Int))), some (.val (.list (rows.map tupN))), some (.val (.int (j : Int))), some (.own (.lst (((rows.take i).flatMap (rowO n)).map tupN))), none, none]) (rows.map tupN) ?_ ?_ ?_
      · rcases id hv with rfl | rfl
        all_goals
          walk_at "rl"
          first | rfl | exact ⟨.inl rfl, rfl⟩
      · rintro i hi _ rfl
        rw [List.length_map] at hi
        have e : (rows.map tupN)[i]'(by rw [List.length_map]; exact hi) = tupN rows[i] := by simp
        have hr := hm (List.getElem_mem hi)
        have hfl := flat_len (n := n) (rows := rows.take i)
        have hfl2 : (rows.take i).length * n ≤ 256 * 4 := Nat.mul_le_mul (by rw [List.length_take]; omega) hn
        rw [e, List.take_succ_eq_append_getElem hi, List.flatMap_append, List.flatMap_cons, List.flatMap_nil, List.append_nil]
        generalize rows[i] = row at *
        generalize (rows.take i).flatMap (rowO n) = acc at *
        unfold l2_law_orders
        walk_at "rl"
        refine wp_forN (fun x ρ => ρ = [some (.val (.int (n : Int))), some (.val (.list (rows.map tupN))), some (.val (.int (j : Int))), some (.own (.lst ((acc ++ ((List.range x).filter fun x => !decide (x ∈ row)).map fun x => row ++ [x]).map tupN))), some (.val (tupN row)), none]) n ?_ ?_ ?_
        · walk_at "rl"
          exact ⟨rfl, by omega, by rw [List.range_zero, List.filter_nil, List.map_nil, List.append_nil]⟩
        · rintro x _ hx rfl
          have hfx := List.length_filter_le (fun x => !decide (x ∈ row)) (List.range x)
          rw [List.length_range] at hfx
          unfold l1_law_orders
          walk_at "ril"
          refine opq rfl rfl (ev_notN (a := x)) ?_
          walk_at "ril"
          have es : acc ++ (((List.range (x + 1)).filter fun x => !decide (x ∈ row)).map fun x => row ++ [x]) = (acc ++ (((List.range x).filter fun x => !decide (x ∈ row)).map fun x => row ++ [x])) ++ (([x].filter fun x => !decide (x ∈ row)).map fun x => row ++ [x]) := by rw [List.range_succ, List.filter_append, List.map_append, List.append_assoc]
          rw [es]
          refine ⟨fun h => ?_, fun h => ?_⟩
          · walk_at "ril"
            refine opq rfl rfl (ev_addT (by rw [List.length_map, List.length_singleton]; omega)) ?_
            walk_at "ril"
            apply appq (xs := (acc ++ ((List.range x).filter fun x => !decide (x ∈ row)).map fun x => row ++ [x]).map tupN) rfl (by rw [List.length_map, List.length_append, List.length_map]; omega)
            walk_at "set"
            walk_at "ril"
            rw [List.filter_cons, if_pos h, List.filter_nil, List.map_singleton, List.map_append (l₁ := acc ++ _), List.map_singleton]
            rw [show tupN (row ++ [x]) = PyData.tuple (row.map natI ++ [PyData.int (x : Int)]) by rw [tupN, List.map_append]; rfl]
          · walk_at "ril"
            rw [List.filter_cons, if_neg (by rw [h]; decide), List.filter_nil, List.map_nil, List.append_nil]
        · rintro _ rfl
          walk_at "rl"
          rfl
      · rintro _ rfl
        rw [List.length_map, List.take_length]
        exact q
    rcases id hv with rfl | rfl
    all_goals
      walk_at "rl"
      refine key _ ?_
      walk_at "rl"
      exact ⟨_, .inr rfl, rfl⟩
  · rintro _ ⟨v1, hv, rfl⟩
    rcases id hv with rfl | rfl
    · walk_at "rl"
      exact q
    · walk_at "rl"
      exact q'
theorem of_best_of_all (hC : Lad n 97 C) (hk : k ≤ 2) (hn : n = 2 ^ k) (hpl : pl < n) (hO : ∀ s ∈ ordF n n, s.Perm (List.range n)) (b : List Nat) (hb : bestO (fW C k pl) (ordF n n) = some b) (q : Q (.val (.tuple [rq (fW C k pl b), tupN b])) []) : Ret d_law_best_of_all [.val (.tuple (ladV n C)), .val (natI pl)] Q := by
  have hln : (line : Nat) = 16777216 := rfl
  have h4 : 2 ^ k ≤ 4 := Nat.pow_le_pow_right (n := 2) (by decide) hk
  have hlv : (ladV n C).length = n := by simp [ladV]
  have hbk : btR k ≤ 5000 ∧ bdR k ≤ 5000 := by
    have : ∀ k, k ≤ 2 → btR k ≤ 5000 ∧ bdR k ≤ 5000 := by decide
    exact this k hk
  have key : ∀ QS : Fl → Env → Prop, (∀ (t d : Int), 0 < d → (t : Rat) = (d : Rat) * fW C k pl b → QS .nx [some (.val (.tuple (ladV n C))), some (.val (natI pl)), some (.val (.tuple [.int t, .int d, tupN b])), none, none, none, none, none]) → Wp (loopF (gName 3) l3_law_best_of_all ((ordF n n).map tupN)) [some (.val (.tuple (ladV n C))), some (.val (natI pl)), some (.val .none), none, none, none, none, none] QS := by
    intro QS q
    generalize ordF n n = S at *
    refine wp_loopK (fun i ρ => ∃ v, (bestO (fW C k pl) (S.take i) = none → v = PyData.none) ∧ (∀ y, bestO (fW C k pl) (S.take i) = some y → ∃ t d : Int, 0 < d ∧ t.natAbs < 2 ^ 5000 ∧ d.natAbs < 2 ^ 5000 ∧ (t : Rat) = (d : Rat) * fW C k pl y ∧ v = .tuple [.int t, .int d, tupN y]) ∧ ρ = [some (.val (.tuple (ladV n C))), some (.val (natI pl)), some (.val v), none, none, none, none, none]) ⟨.none, fun _ => rfl, fun y e => (by rw [List.take_zero] at e; cases e), rfl⟩ ?_ ?_
    · rintro i hi _ ⟨v, g1, g2, rfl⟩
      rw [List.length_map] at hi
      have e : (S.map tupN)[i]'(by rw [List.length_map]; exact hi) = tupN S[i] := by simp
      have hsi := hO _ (List.getElem_mem hi)
      rw [e, List.take_succ_eq_append_getElem hi, bestO_snoc]
      generalize S[i] = s at *
      generalize S.take i = T at *
      have hsl : s.length = 2 ^ k := by rw [hsi.length_eq, List.length_range, hn]
      have hsn : s.Nodup := hsi.nodup_iff.mpr List.nodup_range
      unfold l3_law_best_of_all
      walk_at "rl"
      refine of_law_winners hC (by omega) hsl (fun p h => List.mem_range.mp (hsi.mem_iff.mp h)) hsn fun L d hg => ?_
      obtain ⟨t, ht1, ht2⟩ := good_lk hg hsl hsn (hsi.mem_iff.mpr (List.mem_range.mpr hpl))
      have hf := good_fst hg (by omega)
      rw [seg_full hsl] at hf
      dsimp only at hf
      have hbt := nlt_mono (hg.blk.mem _ ht1).2 hbk.1
      have hbd := nlt_mono hg.blk.bits hbk.2
      have hdp := hg.blk.pos
      dsimp only at hbt hbd hdp
      have hLl : L.length = s.length := by rw [← hf, List.length_map]
      unfold blkV
      walk_at "rl"
      refine wp_lcG (ρ1 := [some (.val (.tuple (ladV n C))), some (.val (natI pl)), some (.val v), some (.val (tupN s)), some (.val (.list (L.map iw))), some (.val (.int d)), none, none]) iw L (fun z => decide (z.1 = pl)) (fun z => .int z.2) (by simp) (by omega) ?_ ?_ ?_ ?_
      · walk_at "rl"
        first | rfl | exact ⟨.inl rfl, rfl⟩
      · intro z hz
        dsimp only [set_s, set_z]
        unfold t2_law_best_of_all
        walk_at "rl"
        first
          | exact ⟨decide_eq_decide.mpr Int.ofNat_inj, rfl⟩
         
      · intro z hz
        dsimp only [set_s, set_z]
        unfold e1_law_best_of_all
        walk_at "rl"
        first | rfl | exact ⟨rfl, rfl⟩
      have es : ((L.filter fun z => decide (z.1 = pl)).map fun z => PyData.int z.2) = ((L.filter fun z => decide (z.1 = pl)).map (·.2)).map PyData.int := by rw [List.map_map]; rfl
      rw [es]
      walk_at "rl"
      refine unq rfl ev_sum ?_
      rw [one_sum (by rw [hf]; exact hsn) ht1 fun z _ => rfl]
      walk_at "rl"
      cases eb : bestO (fW C k pl) T with
      | none =>
        obtain rfl := g1 eb
        walk_at "ril"
        refine ⟨_, fun z => (by cases z), fun y e => ?_, rfl⟩
        cases e
        exact ⟨t, d, hdp, hbt, hbd, ht2, rfl⟩
      | some y =>
        obtain ⟨t0, d0, c1, c2, c3, c4, rfl⟩ := g2 y eb
        walk_at "ril"
        refine opq rfl rfl (ev_mul (mulOk_of _ _ hbt c3 (by omega))) ?_
        walk_at "ril"
        refine opq rfl rfl (ev_mul (mulOk_of _ _ c2 hbd (by omega))) ?_
        walk_at "ril"
        have hd1 : (0 : Rat) < (d : Rat) := by exact_mod_cast hdp
        have hd2 : (0 : Rat) < (d0 : Rat) := by exact_mod_cast c1
        have hcmp : t0 * d < t * d0 ↔ fW C k pl y < fW C k pl s := by
          have e1 : ((t * d0 : Int) : Rat) - ((t0 * d : Int) : Rat) = ((d : Rat) * (d0 : Rat)) * (fW C k pl s - fW C k pl y) := by
            rw [Rat.intCast_mul, Rat.intCast_mul, ht2, c4]
            unfold fW
            grind
          have hdd : (0 : Rat) < (d : Rat) * (d0 : Rat) := Rat.mul_pos hd1 hd2
          rw [← Rat.intCast_lt_intCast]
          constructor
          · intro h
            refine Rat.not_le.mp fun z => ?_
            have := Rat.mul_nonneg (Rat.le_of_lt hdd) (show 0 ≤ fW C k pl y - fW C k pl s by grind)
            grind
          · intro h
            have := Rat.mul_pos hdd (show 0 < fW C k pl s - fW C k pl y by grind)
            grind
        unfold stepB
        dsimp only
        refine ⟨fun h => ?_, fun h => ?_⟩
        · rw [if_pos (hcmp.mp (of_decide_eq_true h))]
          walk_at "ril"
          refine ⟨_, fun z => (by cases z), fun y e => ?_, rfl⟩
          cases e
          exact ⟨t, d, hdp, hbt, hbd, ht2, rfl⟩
        · rw [if_neg (fun z => of_decide_eq_false h (hcmp.mpr z))]
          walk_at "ril"
          refine ⟨_, fun z => (by cases z), fun y e => ?_, rfl⟩
          cases e
          exact ⟨t0, d0, c1, c2, c3, c4, rfl⟩
    · rintro _ ⟨v, g1, g2, rfl⟩
      rw [List.length_map, List.take_length] at g2
      obtain ⟨t, d, c1, c2, c3, c4, rfl⟩ := g2 b hb
      exact q t d c1 c4
  refine ret_mkR (by repeat constructor) ?_
  unfold b_law_best_of_all
  walk_at "rl"
  refine wp_for (wp_seqI ?_)
  walk_at "rl"
  rw [hlv]
  have fin : ∀ t d : Int, 0 < d → (t : Rat) = (d : Rat) * fW C k pl b → fr (rat t d) = rq (fW C k pl b) := fun t d h1 h2 => by
    refine fr_rq' (low_rat (by omega)) ?_
    rw [qv_rat (by omega), h2]
    have := ic_ne (show d ≠ 0 by omega)
    grind
  refine of_orders (by omega) ?_ ?_
  all_goals
    walk_at "rl"
    refine key _ fun t d h1 h2 => ?_
    walk_at "rl"
    refine of_lfraction (by omega) ?_
    rw [fin t d h1 h2]
    walk_at "rl"
    exact q
end
end Py
namespace Py
open PySem D
local macro_rules
  | `(tactic| walk_at "w") => `(tactic| with_reducible first
    | refine seq_nx ?_ | refine seq_rt ?_ | refine seq_bk ?_ | refine seq_ct ?_ | refine wp_seq ?_ | refine wp_asg ?_ | refine wp_next ?_ | refine wp_ret ?_ | refine wp_retN ?_ | refine wp_brk ?_ | refine wp_cont ?_ | refine wp_expr ?_ | refine wp_op ?_ | refine wp_un ?_ | refine wp_c ?_
    | refine unB ?_ | refine wp_truB ?_ | refine wp_and ?_ | refine wp_or ?_ | refine wp_not ?_ | refine wp_ifE ?_ | refine wp_tup ?_ | refine wp_lst ?_ | refine wp_lcons ?_ | refine wp_lnil ?_ | refine frzV ?_ | refine frzN ?_ | refine wp_frz ?_ | refine wp_sl ?_ | refine wp_onone ?_ | refine wp_osome ?_
    | refine wp_anil ?_ | refine wp_av ?_ | refine wp_andV ?_ | refine wp_orV ?_ | refine wp_notV ?_ | refine wp_fgtR ?_ | refine turn_nx ?_ | refine turn_rt ?_ | refine turn_bk ?_ | refine turn_ct ?_ | refine fgt_rt ?_ | refine wp_par ?_ | refine wp_chain ?_ | refine wp_seqI ?_)
local macro_rules
  | `(tactic| walk_at "put") => `(tactic| focus ((repeat apply PutR.s); first | exact PutR.z rfl | exact PutR.z (by assumption)))
local macro_rules
  | `(tactic| walk_at "set") => `(tactic| focus ((repeat apply SetR.s); first | exact SetR.o | exact SetR.r))
local macro_rules
  | `(tactic| walk_at "fgt") => `(tactic| focus (repeat first | exact FgtsR.nil | exact FgtR.k | exact FgtR.z rfl | exact FgtR.z (by assumption) | apply FgtR.s | apply FgtsR.cons))
local macro_rules
  | `(tactic| walk_at "x") => `(tactic| first
    | ((with_reducible apply wp_varV); (focus exact rfl)) | ((with_reducible apply wp_varO); (focus exact rfl)) | ((with_reducible apply wp_varR); (focus exact rfl))
    | ((with_reducible apply opq); (focus exact rfl); (focus exact rfl); (focus (first | exact ev_eqI | exact ev_neI | exact ev_ltI | exact ev_leI | exact ev_gtI | exact ev_geI | exact ev_in2 | exact ev_in2n | exact ev_in4n | exact ev_isT | exact ev_isF | exact ev_isnT | exact ev_isnF | exact ev_eqQ0 | exact ev_eqQ1 | exact ev_eqQ | exact ev_neQ | exact ev_strT | exact ev_strF n1 | exact ev_strF n2 | exact ev_strF n3 | exact ev_strF n4 | exact ev_strF n5 | exact ev_strF n6 | exact rfl)))
    | ((with_reducible apply unq); (focus exact rfl); (focus exact rfl))
    | ((with_reducible first | apply putqV | apply putqN); walk_at "put")
    | ((with_reducible apply putqB); (focus exact rfl); (focus exact rfl); walk_at "put"; walk_at "put")
    | ((with_reducible apply putq2); walk_at "put"; walk_at "put")
    | ((with_reducible apply parq); walk_at "put"; walk_at "put")
    | ((with_reducible apply wp_callR); (focus (repeat first | exact RefsR.nil | apply RefsR.v | apply RefsR.r)); (focus decide))
    | ((with_reducible apply wp_ar); (focus exact rfl))
    | ((with_reducible apply fin_rt); (focus exact rfl); (focus exact rfl))
    | ((with_reducible apply fin_nx); (focus exact rfl))
    | ((with_reducible apply wp_appendR); (focus exact rfl))
    | (with_reducible refine ⟨_, rfl, ?_⟩) | (with_reducible refine ⟨_, .inl rfl, ?_⟩) | (with_reducible refine ⟨_, .inr (.inl rfl), ?_⟩) | (with_reducible refine ⟨_, .inr (.inr rfl), ?_⟩)
    | (with_reducible apply callq0) | ((with_reducible apply frzB); (focus exact rfl); (focus exact rfl); walk_at "put")
    | ((with_reducible apply callq1); walk_at "set")
    | ((with_reducible apply callq2); walk_at "set"; walk_at "set")
    | ((with_reducible first | apply fgt_nx | apply fgt_bk | apply fgt_ct); walk_at "fgt")
    | ((with_reducible apply brT); (focus exact rfl)) | ((with_reducible apply brF); (focus exact rfl)))
local macro_rules
  | `(tactic| walk_at "r") => `(tactic| repeat first | walk_at "w" | walk_at "x")
local macro_rules
  | `(tactic| walk_at "ri") => `(tactic| repeat first | walk_at "w" | walk_at "x" | (with_reducible refine wp_if ?_))
local macro_rules
  | `(tactic| walk_at "app") => `(tactic| ((with_reducible apply appq); (focus exact rfl); (focus ((try simp only [List.length_map, List.length_nil, List.length_cons, List.length_append]); unfold line; omega)); walk_at "set"))
local macro_rules
  | `(tactic| walk_at "mul") => `(tactic| ((refine opq rfl rfl (ev_mul ?_) ?_); (focus (apply mulT <;> omega))))
local macro_rules
  | `(tactic| walk_at "rm") => `(tactic| repeat first | walk_at "w" | walk_at "x" | walk_at "mul")
local macro_rules
  | `(tactic| walk_at "len") => `(tactic| (refine And.intro ?_ ?_; (focus (simp [line]; done))))
local macro_rules
  | `(tactic| walk_at "rl") => `(tactic| repeat first | walk_at "w" | walk_at "x" | walk_at "len")
local macro_rules
  | `(tactic| walk_at "ril") => `(tactic| repeat first | walk_at "w" | walk_at "x" | walk_at "len" | (with_reducible refine wp_if ?_))
/-! QLi: orders and unlike places, plain. -/
def foursF : List Nat → List (List Nat)
  | [a, b, c, d] => [[a, b, c, d], [a, c, b, d], [a, d, b, c]]
  | _ => []
def rest8 (f : List Nat) : List Nat := (List.range 8).filter fun m => !decide (m ∈ f)
def moreF (one other : Nat) : List (List Nat) := (List.range' (other + 1) (8 - (other + 1))).map fun more => [0, one, other, more]
def firstsF : List (List Nat) := (List.range' 1 7).flatMap fun one => (List.range' (one + 1) (8 - (one + 1))).flatMap fun other => moreF one other
def twins1 (f : List Nat) : List (List Nat × List Nat) := (foursF f).flatMap fun l => (foursF (rest8 f)).map fun r => (l, r)
def twinsF : List (List Nat × List Nat) := firstsF.flatMap twins1
def castT (p : List Nat × List Nat) : List Int × List Int := (castL p.1, castL p.2)
def lexT (p q : List Nat × List Nat) : Bool := twinLe (castT p) (castT q)
theorem sl0 : SL 0 = [[0]] := by decide +kernel
theorem sl1 : SL 1 = [[0, 1]] := by decide +kernel
theorem sl2 : SL 2 = [[0, 1, 2, 3], [0, 2, 1, 3], [0, 3, 1, 2]] := by decide +kernel
theorem sl3 : SL 3 = (isG lexT twinsF).map fun p => p.1 ++ p.2 := by decide +kernel
theorem or1 : ordF 1 1 = [[0]] := by decide +kernel
theorem or2 : ordF 2 2 = [[0, 1], [1, 0]] := by decide +kernel
theorem or4 : ∀ s ∈ ordF 4 4, s.Perm (List.range 4) := by decide +kernel
def rep : List Nat → List Nat
  | [a, b, c, d] => if min c d < min a b then [min c d, max c d, min a b, max a b] else [min a b, max a b, min c d, max c d]
  | x => x
def isS (s : List Nat) : Bool := decide (s ∈ ([[0, 1, 2, 3], [0, 2, 1, 3], [0, 3, 1, 2]] : List (List Nat)))
theorem or4S : (ordF 4 4).filter isS = [[0, 1, 2, 3], [0, 2, 1, 3], [0, 3, 1, 2]] := by decide +kernel
theorem or4R : ∀ i, i < 24 → isS ((ordF 4 4).getD i []) = true ∨ rep ((ordF 4 4).getD i []) ∈ (ordF 4 4).take i := by decide +kernel
theorem or4L : (ordF 4 4).length = 24 := by decide +kernel
end Py
namespace Py
open PySem D
local macro_rules
  | `(tactic| walk_at "w") => `(tactic| with_reducible first
    | refine seq_nx ?_ | refine seq_rt ?_ | refine seq_bk ?_ | refine seq_ct ?_ | refine wp_seq ?_ | refine wp_asg ?_ | refine wp_next ?_ | refine wp_ret ?_ | refine wp_retN ?_ | refine wp_brk ?_ | refine wp_cont ?_ | refine wp_expr ?_ | refine wp_op ?_ | refine wp_un ?_ | refine wp_c ?_
    | refine unB ?_ | refine wp_truB ?_ | refine wp_and ?_ | refine wp_or ?_ | refine wp_not ?_ | refine wp_ifE ?_ | refine wp_tup ?_ | refine wp_lst ?_ | refine wp_lcons ?_ | refine wp_lnil ?_ | refine frzV ?_ | refine frzN ?_ | refine wp_frz ?_ | refine wp_sl ?_ | refine wp_onone ?_ | refine wp_osome ?_
    | refine wp_anil ?_ | refine wp_av ?_ | refine wp_andV ?_ | refine wp_orV ?_ | refine wp_notV ?_ | refine wp_fgtR ?_ | refine turn_nx ?_ | refine turn_rt ?_ | refine turn_bk ?_ | refine turn_ct ?_ | refine fgt_rt ?_ | refine wp_par ?_ | refine wp_chain ?_ | refine wp_seqI ?_)
local macro_rules
  | `(tactic| walk_at "put") => `(tactic| focus ((repeat apply PutR.s); first | exact PutR.z rfl | exact PutR.z (by assumption)))
local macro_rules
  | `(tactic| walk_at "set") => `(tactic| focus ((repeat apply SetR.s); first | exact SetR.o | exact SetR.r))
local macro_rules
  | `(tactic| walk_at "fgt") => `(tactic| focus (repeat first | exact FgtsR.nil | exact FgtR.k | exact FgtR.z rfl | exact FgtR.z (by assumption) | apply FgtR.s | apply FgtsR.cons))
local macro_rules
  | `(tactic| walk_at "x") => `(tactic| first
    | ((with_reducible apply wp_varV); (focus exact rfl)) | ((with_reducible apply wp_varO); (focus exact rfl)) | ((with_reducible apply wp_varR); (focus exact rfl))
    | ((with_reducible apply opq); (focus exact rfl); (focus exact rfl); (focus (first | exact ev_eqI | exact ev_neI | exact ev_ltI | exact ev_leI | exact ev_gtI | exact ev_geI | exact ev_in2 | exact ev_in2n | exact ev_in4n | exact ev_isT | exact ev_isF | exact ev_isnT | exact ev_isnF | exact ev_eqQ0 | exact ev_eqQ1 | exact ev_eqQ | exact ev_neQ | exact ev_strT | exact ev_strF n1 | exact ev_strF n2 | exact ev_strF n3 | exact ev_strF n4 | exact ev_strF n5 | exact ev_strF n6 | exact rfl)))
    | ((with_reducible apply unq); (focus exact rfl); (focus exact rfl))
    | ((with_reducible first | apply putqV | apply putqN); walk_at "put")
    | ((with_reducible apply putqB); (focus exact rfl); (focus exact rfl); walk_at "put"; walk_at "put")
    | ((with_reducible apply putq2); walk_at "put"; walk_at "put")
    | ((with_reducible apply parq); walk_at "put"; walk_at "put")
    | ((with_reducible apply wp_callR); (focus (repeat first | exact RefsR.nil | apply RefsR.v | apply RefsR.r)); (focus decide))
    | ((with_reducible apply wp_ar); (focus exact rfl))
    | ((with_reducible apply fin_rt); (focus exact rfl); (focus exact rfl))
    | ((with_reducible apply fin_nx); (focus exact rfl))
    | ((with_reducible apply wp_appendR); (focus exact rfl))
    | (with_reducible refine ⟨_, rfl, ?_⟩) | (with_reducible refine ⟨_, .inl rfl, ?_⟩) | (with_reducible refine ⟨_, .inr (.inl rfl), ?_⟩) | (with_reducible refine ⟨_, .inr (.inr rfl), ?_⟩)
    | (with_reducible apply callq0) | ((with_reducible apply frzB); (focus exact rfl); (focus exact rfl); walk_at "put")
    | ((with_reducible apply callq1); walk_at "set")
    | ((with_reducible apply callq2); walk_at "set"; walk_at "set")
    | ((with_reducible first | apply fgt_nx | apply fgt_bk | apply fgt_ct); walk_at "fgt")
    | ((with_reducible apply brT); (focus exact rfl)) | ((with_reducible apply brF); (focus exact rfl)))
local macro_rules
  | `(tactic| walk_at "r") => `(tactic| repeat first | walk_at "w" | walk_at "x")
local macro_rules
  | `(tactic| walk_at "ri") => `(tactic| repeat first | walk_at "w" | walk_at "x" | (with_reducible refine wp_if ?_))
local macro_rules
  | `(tactic| walk_at "app") => `(tactic| ((with_reducible apply appq); (focus exact rfl); (focus ((try simp only [List.length_map, List.length_nil, List.length_cons, List.length_append]); unfold line; omega)); walk_at "set"))
local macro_rules
  | `(tactic| walk_at "mul") => `(tactic| ((refine opq rfl rfl (ev_mul ?_) ?_); (focus (apply mulT <;> omega))))
local macro_rules
  | `(tactic| walk_at "rm") => `(tactic| repeat first | walk_at "w" | walk_at "x" | walk_at "mul")
local macro_rules
  | `(tactic| walk_at "len") => `(tactic| (refine And.intro ?_ ?_; (focus (simp [line]; done))))
local macro_rules
  | `(tactic| walk_at "rl") => `(tactic| repeat first | walk_at "w" | walk_at "x" | walk_at "len")
local macro_rules
  | `(tactic| walk_at "ril") => `(tactic| repeat first | walk_at "w" | walk_at "x" | walk_at "len" | (with_reducible refine wp_if ?_))
/-! QLj: the best of all orders is the best of the unlike ones. -/
section
variable {C : Nat → Nat → Rat} {n k pl : Nat}
theorem wp_4 {a b c d : Nat} : (mkT 2 [a, b, c, d]).wl C = duel C (duel C [(a, 1)] [(b, 1)]) (duel C [(c, 1)] [(d, 1)]) := rfl
theorem duel_mm {x y : Nat} : (duel C [(min x y, 1)] [(max x y, 1)]).Perm (duel C [(x, 1)] [(y, 1)]) := by
  by_cases h : x ≤ y
  · rw [Nat.min_eq_left h, Nat.max_eq_right h]
  · rw [Nat.min_eq_right (by omega), Nat.max_eq_left (by omega)]
    exact duel_swap
theorem rep_wp {a b c d : Nat} : ((mkT 2 (rep [a, b, c, d])).wl C).Perm ((mkT 2 [a, b, c, d]).wl C) := by
  have h1 : ((mkT 2 [min a b, max a b, min c d, max c d]).wl C).Perm ((mkT 2 [a, b, c, d]).wl C) := by
    rw [wp_4, wp_4]
    exact duel_perm duel_mm duel_mm
  have h2 : ((mkT 2 [min c d, max c d, min a b, max a b]).wl C).Perm ((mkT 2 [min a b, max a b, min c d, max c d]).wl C) := by
    rw [wp_4, wp_4]
    exact duel_swap
  by_cases h : min c d < min a b
  · have e : rep [a, b, c, d] = [min c d, max c d, min a b, max a b] := if_pos h
    rw [e]
    exact h2.trans h1
  · have e : rep [a, b, c, d] = [min a b, max a b, min c d, max c d] := if_neg h
    rw [e]
    exact h1
theorem rep_f {s : List Nat} (hs : s.Perm (List.range 4)) (hpl : pl < 4) : fW C 2 pl s = fW C 2 pl (rep s) := by
  have hl : s.length = 4 := by rw [hs.length_eq, List.length_range]
  match s, hl with
  | [a, b, c, d], _ =>
    unfold fW
    refine (lk_perm ?_ rep_wp ?_).symm
    · rw [wl_fstk rfl]; exact hs.nodup_iff.mpr List.nodup_range
    · rw [wl_fstk rfl]; exact hs.mem_iff.mpr (List.mem_range.mpr hpl)
theorem best_some {α : Type} {f : α → Rat} {l : List α} (h : l ≠ []) : ∃ b, bestO f l = some b := by
  cases l with
  | nil => exact absurd rfl h
  | cons x l => obtain ⟨y, e, _⟩ := bestO_le (f := f) x (List.mem_cons_self ..); exact ⟨y, e⟩
theorem best_cat {α β : Type} {f : β → Rat} {g : α → β} : ∀ l : List α, bestO f (l.map g) = (bestO (fun x => f (g x)) l).map g := fun l => by
  induction l using snoc_ind with
  | nil => rfl
  | snoc l x ih =>
    rw [List.map_append, List.map_singleton, bestO_snoc, bestO_snoc, ih]
    cases bestO (fun x => f (g x)) l with
    | none => rfl
    | some y =>
      show (if f (g y) < f (g x) then some (g x) else some (g y)) = Option.map g (if f (g y) < f (g x) then some x else some y)
      by_cases h : f (g y) < f (g x)
      · rw [if_pos h, if_pos h]; rfl
      · rw [if_neg h, if_neg h]; rfl
theorem small_best (hk : k ≤ 2) (hn : n = 2 ^ k) (hpl : pl < n) : (∀ s ∈ ordF n n, s.Perm (List.range n)) ∧ ∃ b, bestO (fW C k pl) (SL k) = some b ∧ bestO (fW C k pl) (ordF n n) = some b := by
  obtain rfl | rfl | rfl : k = 0 ∨ k = 1 ∨ k = 2 := by omega
  · obtain rfl : n = 1 := hn
    rw [or1, sl0]
    refine ⟨fun s hs => ?_, [0], rfl, rfl⟩
    rw [List.mem_singleton.mp hs]
    exact .refl _
  · obtain rfl : n = 2 := hn
    rw [or2, sl1]
    refine ⟨fun s hs => ?_, [0, 1], rfl, ?_⟩
    · rcases List.mem_cons.mp hs with rfl | hs
      · exact .refl _
      · rw [List.mem_singleton.mp hs]
        exact List.Perm.swap 0 1 []
    · have e : fW C 1 pl [1, 0] = fW C 1 pl [0, 1] := by
        unfold fW
        have hp : ((mkT 1 [1, 0]).wl C).Perm ((mkT 1 [0, 1]).wl C) := duel_swap
        refine lk_perm ?_ hp ?_
        · rw [wl_fstk rfl]; decide
        · rw [wl_fstk rfl]
          obtain rfl | rfl : pl = 0 ∨ pl = 1 := by omega
          · decide
          · decide
      show stepB (fW C 1 pl) (some [0, 1]) [1, 0] = _
      unfold stepB
      dsimp only
      rw [if_neg (by rw [e]; exact Rat.not_lt.mpr Rat.le_refl)]
  · obtain rfl : n = 4 := hn
    refine ⟨or4, ?_⟩
    have h : bestO (fW C 2 pl) (ordF 4 4) = bestO (fW C 2 pl) ((ordF 4 4).filter isS) := by
      refine bestO_skip fun pre x post e hx => ?_
      have hlen := or4L
      rw [e, List.length_append, List.length_cons] at hlen
      have hi := or4R pre.length (by omega)
      have hg : (ordF 4 4).getD pre.length [] = x := by rw [e]; simp
      have ht : (ordF 4 4).take pre.length = pre := by rw [e]; simp
      rw [hg, ht, hx] at hi
      exact ⟨rep x, hi.resolve_left (by decide), rep_f (or4 x (by rw [e]; simp)) hpl⟩
    rw [h, or4S, sl2]
    obtain ⟨b, hb⟩ := best_some (f := fW C 2 pl) (l := [[0, 1, 2, 3], [0, 2, 1, 3], [0, 3, 1, 2]]) (by simp)
    exact ⟨b, hb, hb⟩
end
/-! sorted pairs of places -/
theorem twinLe_total (a b : List Int × List Int) : (twinLe a b || twinLe b a) = true := by
  unfold twinLe
  simp only [Bool.or_eq_true, Bool.not_eq_true', decide_eq_false_iff_not]
  by_cases h : b.1 < a.1 ∨ (b.1 = a.1 ∧ b.2 < a.2)
  · refine .inr fun h2 => ?_
    rcases h with h | ⟨h, h'⟩ <;> rcases h2 with g | ⟨g, g'⟩
    · exact List.lt_asymm h g
    · rw [g] at h; exact List.lt_irrefl _ h
    · rw [h] at g; exact List.lt_irrefl _ g
    · exact List.lt_asymm h' g'
  · exact .inl h
theorem twinLe_tr (a b c : List Int × List Int) (h1 : twinLe a b = true) (h2 : twinLe b c = true) : twinLe a c = true := by
  unfold twinLe at *
  simp only [Bool.not_eq_true', decide_eq_false_iff_not] at *
  have n1 : a.1 ≤ b.1 := fun z => h1 (.inl z)
  have n2 : b.1 ≤ c.1 := fun z => h2 (.inl z)
  intro h
  rcases h with h | ⟨h, h'⟩
  · exact (List.le_trans n1 n2) h
  · have e1 : a.1 = b.1 := List.le_antisymm n1 (by rw [← h]; exact n2)
    have e2 : c.1 = b.1 := by rw [h]; exact e1
    have m1 : a.2 ≤ b.2 := fun z => h1 (.inr ⟨e1.symm, z⟩)
    have m2 : b.2 ≤ c.2 := fun z => h2 (.inr ⟨e2, z⟩)
    exact (List.le_trans m1 m2) h'
theorem twinLe_anti (a b : List Int × List Int) (h1 : twinLe a b = true) (h2 : twinLe b a = true) : a = b := by
  unfold twinLe at *
  simp only [Bool.not_eq_true', decide_eq_false_iff_not] at *
  have n1 : a.1 ≤ b.1 := fun z => h1 (.inl z)
  have n2 : b.1 ≤ a.1 := fun z => h2 (.inl z)
  have e := List.le_antisymm n1 n2
  have m1 : a.2 ≤ b.2 := fun z => h1 (.inr ⟨e.symm, z⟩)
  have m2 : b.2 ≤ a.2 := fun z => h2 (.inr ⟨e, z⟩)
  exact Prod.ext e (List.le_antisymm m1 m2)
def TW8 : List (List Nat × List Nat) := isG lexT twinsF
theorem TW8_sort : (twinsF.map castT).mergeSort twinLe = TW8.map castT := by
  refine List.Perm.eq_of_pairwise (le := fun a b => twinLe a b = true) (fun a b _ _ => twinLe_anti a b) ?_ ?_ ?_
  · exact List.pairwise_mergeSort twinLe_tr twinLe_total _
  · rw [List.pairwise_map]
    exact isG_sorted (le := lexT) (fun a b => twinLe_total (castT a) (castT b)) (fun a b c => twinLe_tr (castT a) (castT b) (castT c)) _
  · exact (List.mergeSort_perm _ _).trans ((isG_perm _).map castT).symm
theorem TW8_mem : ∀ p ∈ TW8, p.1.length = 4 ∧ p.2.length = 4 ∧ (p.1 ++ p.2).Perm (List.range 8) := by
  have h : ∀ p ∈ twinsF, p.1.length = 4 ∧ p.2.length = 4 ∧ (p.1 ++ p.2).Perm (List.range 8) := by decide +kernel
  exact fun p hp => h p ((isG_perm (le := lexT) twinsF).mem_iff.mp hp)
end Py
namespace Py
open PySem D
local macro_rules
  | `(tactic| walk_at "w") => `(tactic| with_reducible first
    | refine seq_nx ?_ | refine seq_rt ?_ | refine seq_bk ?_ | refine seq_ct ?_ | refine wp_seq ?_ | refine wp_asg ?_ | refine wp_next ?_ | refine wp_ret ?_ | refine wp_retN ?_ | refine wp_brk ?_ | refine wp_cont ?_ | refine wp_expr ?_ | refine wp_op ?_ | refine wp_un ?_ | refine wp_c ?_
    | refine unB ?_ | refine wp_truB ?_ | refine wp_and ?_ | refine wp_or ?_ | refine wp_not ?_ | refine wp_ifE ?_ | refine wp_tup ?_ | refine wp_lst ?_ | refine wp_lcons ?_ | refine wp_lnil ?_ | refine frzV ?_ | refine frzN ?_ | refine wp_frz ?_ | refine wp_sl ?_ | refine wp_onone ?_ | refine wp_osome ?_
    | refine wp_anil ?_ | refine wp_av ?_ | refine wp_andV ?_ | refine wp_orV ?_ | refine wp_notV ?_ | refine wp_fgtR ?_ | refine turn_nx ?_ | refine turn_rt ?_ | refine turn_bk ?_ | refine turn_ct ?_ | refine fgt_rt ?_ | refine wp_par ?_ | refine wp_chain ?_ | refine wp_seqI ?_)
local macro_rules
  | `(tactic| walk_at "put") => `(tactic| focus ((repeat apply PutR.s); first | exact PutR.z rfl | exact PutR.z (by assumption)))
local macro_rules
  | `(tactic| walk_at "set") => `(tactic| focus ((repeat apply SetR.s); first | exact SetR.o | exact SetR.r))
local macro_rules
  | `(tactic| walk_at "fgt") => `(tactic| focus (repeat first | exact FgtsR.nil | exact FgtR.k | exact FgtR.z rfl | exact FgtR.z (by assumption) | apply FgtR.s | apply FgtsR.cons))
local macro_rules
  | `(tactic| walk_at "x") => `(tactic| first
    | ((with_reducible apply wp_varV); (focus exact rfl)) | ((with_reducible apply wp_varO); (focus exact rfl)) | ((with_reducible apply wp_varR); (focus exact rfl))
    | ((with_reducible apply opq); (focus exact rfl); (focus exact rfl); (focus (first | exact ev_eqI | exact ev_neI | exact ev_ltI | exact ev_leI | exact ev_gtI | exact ev_geI | exact ev_in2 | exact ev_in2n | exact ev_in4n | exact ev_isT | exact ev_isF | exact ev_isnT | exact ev_isnF | exact ev_eqQ0 | exact ev_eqQ1 | exact ev_eqQ | exact ev_neQ | exact ev_strT | exact ev_strF n1 | exact ev_strF n2 | exact ev_strF n3 | exact ev_strF n4 | exact ev_strF n5 | exact ev_strF n6 | exact rfl)))
    | ((with_reducible apply unq); (focus exact rfl); (focus exact rfl))
    | ((with_reducible first | apply putqV | apply putqN); walk_at "put")
    | ((with_reducible apply putqB); (focus exact rfl); (focus exact rfl); walk_at "put"; walk_at "put")
    | ((with_reducible apply putq2); walk_at "put"; walk_at "put")
    | ((with_reducible apply parq); walk_at "put"; walk_at "put")
    | ((with_reducible apply wp_callR); (focus (repeat first | exact RefsR.nil | apply RefsR.v | apply RefsR.r)); (focus decide))
    | ((with_reducible apply wp_ar); (focus exact rfl))
    | ((with_reducible apply fin_rt); (focus exact rfl); (focus exact rfl))
    | ((with_reducible apply fin_nx); (focus exact rfl))
    | ((with_reducible apply wp_appendR); (focus exact rfl))
    | (with_reducible refine ⟨_, rfl, ?_⟩) | (with_reducible refine ⟨_, .inl rfl, ?_⟩) | (with_reducible refine ⟨_, .inr (.inl rfl), ?_⟩) | (with_reducible refine ⟨_, .inr (.inr rfl), ?_⟩)
    | (with_reducible apply callq0) | ((with_reducible apply frzB); (focus exact rfl); (focus exact rfl); walk_at "put")
    | ((with_reducible apply callq1); walk_at "set")
    | ((with_reducible apply callq2); walk_at "set"; walk_at "set")
    | ((with_reducible first | apply fgt_nx | apply fgt_bk | apply fgt_ct); walk_at "fgt")
    | ((with_reducible apply brT); (focus exact rfl)) | ((with_reducible apply brF); (focus exact rfl)))
local macro_rules
  | `(tactic| walk_at "r") => `(tactic| repeat first | walk_at "w" | walk_at "x")
local macro_rules
  | `(tactic| walk_at "ri") => `(tactic| repeat first | walk_at "w" | walk_at "x" | (with_reducible refine wp_if ?_))
local macro_rules
  | `(tactic| walk_at "app") => `(tactic| ((with_reducible apply appq); (focus exact rfl); (focus ((try simp only [List.length_map, List.length_nil, List.length_cons, List.length_append]); unfold line; omega)); walk_at "set"))
local macro_rules
  | `(tactic| walk_at "mul") => `(tactic| ((refine opq rfl rfl (ev_mul ?_) ?_); (focus (apply mulT <;> omega))))
local macro_rules
  | `(tactic| walk_at "rm") => `(tactic| repeat first | walk_at "w" | walk_at "x" | walk_at "mul")
local macro_rules
  | `(tactic| walk_at "len") => `(tactic| (refine And.intro ?_ ?_; (focus (simp [line]; done))))
local macro_rules
  | `(tactic| walk_at "rl") => `(tactic| repeat first | walk_at "w" | walk_at "x" | walk_at "len")
local macro_rules
  | `(tactic| walk_at "ril") => `(tactic| repeat first | walk_at "w" | walk_at "x" | walk_at "len" | (with_reducible refine wp_if ?_))
/-! QLk: chances whose denominators divide one number (printed by gen_qlk.py of QAb's text). -/
section
variable {Q : R → List Ob → Prop} {n b : Nat} {ns ds : List Int}
theorem of_ladderD {d : Nat} (hn : n ≤ 100) (hd : 1 ≤ d) (hb : 1 ≤ b) (hdb : d < 2 ^ b) (k : ∀ C ds', Lad n b C → (∀ p, p < n → ∀ q, q < n → (C p q).den ∣ d) → Q (.val (.tuple (ladV n C))) [intsO ds']) : Ret d_law_ladder [.ref (intsO ds), .val (.int (n : Int)), .val (.int (d : Int))] Q := by
  have hln : (line : Nat) = 16777216 := rfl
  refine ret_mkR (by repeat constructor) ?_
  unfold b_law_ladder
  walk_at "rl"
  refine wp_lad (row := rowP n fun _ => 0) (n := n) rfl hn rfl (by simp) (by simp [get]) ?_ ?_
  · intro k hk
    have hw : Wp e2_law_ladder ((wipe [some (.ref (intsO ds)), some (.val (.int (n : Int))), some (.val (.int (d : Int))), none, none, none, none, none] [4]).set 4 (some (.val (.int (k : Int))))) fun r ρ => r = .new (.lst (rowP n fun _ => 0)) ∧ ρ = (wipe [some (.ref (intsO ds)), some (.val (.int (n : Int))), some (.val (.int (d : Int))), none, none, none, none, none] [4]).set 4 (some (.val (.int (k : Int)))) := by
      dsimp only [wipe, set_s, set_z]
      unfold e2_law_ladder
      refine wp_lcN (ρ1 := [some (.ref (intsO ds)), some (.val (.int (n : Int))), some (.val (.int (d : Int))), none, some (.val (.int (k : Int))), none, none, none]) n (fun _ => rq 0) (by simp) (by omega) ?_ ?_ ?_
      · walk_at "rl"
        exact ⟨rfl, rfl⟩
      · intro j hj
        dsimp only [set_s, set_z]
        unfold e1_law_ladder
        walk_at "rl"
        exact ⟨rfl, rfl⟩
      exact ⟨rfl, rfl⟩
    obtain ⟨r, ρ, e, rfl, rfl⟩ := hw
    exact e
  have e0 : List.replicate n (rowP n fun _ => (0 : Rat)) = tabL n fun _ _ => 0 := by
    unfold tabL
    exact List.ext_getElem (by simp) fun i _ _ => by simp
  rw [e0]
  unfold x3_law_ladder
  refine wt_for (fun p s => ∃ (F : Nat → Nat → Rat) (ds : List Int) (u5 u6 u4 : Option Sl), (isRef u5 = false ∧ isRef u6 = false ∧ isRef u4 = false) ∧ (∀ p', p' < n → ∀ q, q < n → (Bq b (F p' q) ∧ (F p' q).den ∣ d) ∧ 0 ≤ F p' q ∧ F p' q ≤ 1) ∧ (∀ p', F p' p' = 0) ∧ (∀ p', p' < p → ∀ q, q < p' → F p' q + F q p' = 1) ∧ s = ([some (.ref (intsO ds)), some (.val (.int (n : Int))), some (.val (.int (d : Int))), none, u4, u5, u6, none], tabL n F)) n ?_ ?_ ?_
  · walk_at "rl"
    exact ⟨rfl, by omega, fun _ _ => 0, ds, none, none, none, ⟨rfl, rfl, rfl⟩, fun _ _ _ _ => ⟨⟨bq_0.mono hb, Nat.one_dvd d⟩, Rat.le_refl, by show (0 : Rat) ≤ 1; decide⟩, fun _ => rfl, fun p' hp => by omega, rfl⟩
  · rintro p hp _ ⟨F, ds, u5, u6, u4, ⟨v5, v6, v4⟩, h1, h2, h3, rfl⟩
    refine ⟨[some (.ref (intsO ds)), some (.val (.int (n : Int))), some (.val (.int (d : Int))), none, some (.val (.int (p : Int))), u5, u6, none], by unfold Py.put; simp [get, v4], ?_⟩
    refine wt_for (fun q s => ∃ (F : Nat → Nat → Rat) (ds : List Int) (u5 u6 : Option Sl), (isRef u5 = false ∧ isRef u6 = false) ∧ (∀ p', p' < n → ∀ q, q < n → (Bq b (F p' q) ∧ (F p' q).den ∣ d) ∧ 0 ≤ F p' q ∧ F p' q ≤ 1) ∧ (∀ p', F p' p' = 0) ∧ (∀ p', p' < p → ∀ q, q < p' → F p' q + F q p' = 1) ∧ (∀ q', q' < q → F p q' + F q' p = 1) ∧ s = ([some (.ref (intsO ds)), some (.val (.int (n : Int))), some (.val (.int (d : Int))), none, some (.val (.int (p : Int))), u5, u6, none], tabL n F)) p ?_ ?_ ?_
    · walk_at "rl"
      exact ⟨rfl, by omega, F, ds, u5, u6, ⟨v5, v6⟩, h1, h2, h3, fun q hq => by omega, rfl⟩
    · clear h1 h2 h3 v5 v6 v4 u4 u5 u6 F
      rintro q hq _ ⟨F, ds, u5, u6, ⟨v5, v6⟩, h1, h2, h3, h4, rfl⟩
      refine ⟨[some (.ref (intsO ds)), some (.val (.int (n : Int))), some (.val (.int (d : Int))), none, some (.val (.int (p : Int))), some (.val (.int (q : Int))), u6, none], by unfold Py.put; simp [get, v5], ?_⟩
      refine wt_seq (wt_asg ?_)
      walk_at "rl"
      refine of_take (by omega) fun x1 ds hx1 hx2 => ?_
      walk_at "rl"
      refine of_take (by omega) fun x2 ds hx3 hx4 => ?_
      walk_at "rl"
      refine of_take (by decide) fun i ds hi1 hi2 => ?_
      walk_at "rl"
      obtain ⟨x, hx, hat⟩ := pickI (xs := [x1, x2, (d : Int).fdiv 2, d, 0]) hi1 (by simpa using hi2)
      have hd2 : 0 ≤ (d : Int).fdiv 2 ∧ (d : Int).fdiv 2 ≤ d := by
        rw [Int.fdiv_eq_ediv_of_nonneg _ (by decide)]
        omega
      have hxb : 0 ≤ x ∧ x ≤ d := by
        simp only [List.mem_cons, List.not_mem_nil, or_false] at hx
        omega
      refine opq rfl rfl (ev_ix (.inr (.inr rfl)) hat) ?_
      walk_at "rl"
      have hdR : ((d : Int) : Rat) ≠ 0 := ic_ne (by omega)
      have hd0 : (0 : Rat) < ((d : Int) : Rat) := by exact_mod_cast (show (0 : Int) < (d : Int) by omega)
      obtain ⟨X, hX⟩ : ∃ X : Rat, X = (x : Rat) / ((d : Int) : Rat) := ⟨_, rfl⟩
      have hX1 : fr (rat x (d : Int)) = rq X := by rw [hX]; exact fr_rq' (low_rat (by omega)) (qv_rat (by omega))
      have hX2 : fr (rat ((d : Int) - x) (d : Int)) = rq (1 - X) := by
        refine fr_rq' (low_rat (by omega)) ?_
        rw [qv_rat (by omega), Rat.intCast_sub, hX]
        grind
      have hXb : Bq b X := by
        rw [hX]
        exact bq_of (n := x) (d := d) (by omega) (by grind) (by omega) (by omega)
      have hYb : Bq b (1 - X) := by
        rw [hX]
        exact bq_of (n := d - x) (d := d) (by omega) (by rw [Rat.intCast_sub]; grind) (by omega) (by omega)
      have hXd : X.den ∣ d := den_dvd (m := x) (by
        have : ((d : Nat) : Rat) = ((d : Int) : Rat) := (Rat.intCast_natCast d).symm
        rw [this, hX]
        grind)
      have hYd : (1 - X).den ∣ d := den_one hXd
      have hX0 : 0 ≤ X ∧ X ≤ 1 := by
        have e1 : X * ((d : Int) : Rat) = (x : Rat) := by rw [hX]; grind
        have f1 : (0 : Rat) ≤ (x : Rat) := by exact_mod_cast hxb.1
        have f2 : (x : Rat) ≤ ((d : Int) : Rat) := Rat.intCast_le_intCast.mpr hxb.2
        constructor
        · refine Rat.not_lt.mp fun z => ?_
          have := Rat.mul_pos (show 0 < -X by grind) hd0
          grind
        · refine Rat.not_lt.mp fun z => ?_
          have := Rat.mul_pos (show 0 < X - 1 by grind) hd0
          grind
      refine ⟨[some (.ref (intsO ds)), some (.val (.int (n : Int))), some (.val (.int (d : Int))), none, some (.val (.int (p : Int))), some (.val (.int (q : Int))), some (.val (.int x)), none], by unfold Py.put; simp [get, v6], ?_⟩
      refine wt_seq (wt_set ?_)
      walk_at "rl"
      refine of_lfraction (by omega) ?_
      rw [hX1]
      walk_at "rl"
      refine ⟨_, _, _, rfl, rfl, set2_tab hp (by omega), ?_⟩
      refine wt_set ?_
      walk_at "rl"
      refine of_lfraction (by omega) ?_
      rw [hX2]
      walk_at "rl"
      refine ⟨_, _, _, rfl, rfl, set2_tab (by omega) hp, ?_⟩
      refine ⟨_, ds, _, _, ⟨rfl, rfl⟩, fun p' hp' q' hq' => ?_, fun p' => ?_, fun p' hp' q' hq' => ?_, fun q' hq' => ?_, rfl⟩
      · unfold upd2
        split
        · exact ⟨⟨hYb, hYd⟩, by grind, by grind⟩
        · split
          · exact ⟨⟨hXb, hXd⟩, hX0.1, hX0.2⟩
          · exact h1 p' hp' q' hq'
      · unfold upd2
        rw [if_neg (by omega), if_neg (by omega)]
        exact h2 p'
      · unfold upd2
        rw [if_neg (by omega), if_neg (by omega), if_neg (by omega), if_neg (by omega)]
        exact h3 p' hp' q' hq'
      · unfold upd2
        by_cases c : q' = q
        · subst c
          rw [if_neg (by omega), if_pos ⟨rfl, rfl⟩, if_pos ⟨rfl, rfl⟩]
          grind
        · rw [if_neg (by omega), if_neg (by omega), if_neg (by omega), if_neg (by omega)]
          exact h4 q' (by omega)
    · rintro _ ⟨F, ds, u5, u6, ⟨v5, v6⟩, h1, h2, h3, h4, rfl⟩
      exact ⟨F, ds, u5, u6, _, ⟨v5, v6, rfl⟩, h1, h2, fun p' hp' q hq => by
        by_cases c : p' = p
        · subst c; exact h4 q hq
        · exact h3 p' (by omega) q hq, rfl⟩
  · rintro _ ⟨F, ds, u5, u6, u4, hu, h1, h2, h3, rfl⟩
    dsimp only [set_s, set_z]
    walk_at "rl"
    refine wp_lcS (ρ1 := [some (.ref (intsO ds)), some (.val (.int (n : Int))), some (.val (.int (d : Int))), some (.val (.list ((tabL n F).map PySem.PyData.list))), u4, u5, u6, none]) ((tabL n F).map PySem.PyData.list) (fun p => .tuple (rowP n (F p))) (by simp) (by simp [tabL]; omega) ?_ ?_ ?_
    · walk_at "rl"
      first | rfl | exact ⟨.inl rfl, rfl⟩
    · intro p hp
      have e : ((tabL n F).map PySem.PyData.list)[p] = .list (rowP n (F p)) := by simp [tabL]
      rw [e]
      dsimp only [set_s, set_z]
      unfold e4_law_ladder
      walk_at "rl"
      first | rfl | exact ⟨rfl, rfl⟩
    have e3 : ((List.range ((tabL n F).map PySem.PyData.list).length).map fun p => PyData.tuple (rowP n (F p))) = ladV n F := by
      rw [List.length_map]
      unfold ladV
      simp [tabL]
    rw [e3]
    walk_at "rl"
    refine k F ds ⟨fun p hp q hq => (h1 p hp q hq).1.1, fun p hp q hq hpq => ?_, fun p _ => h2 p, fun p hp q hq => (h1 p hp q hq).2⟩ fun p hp q hq => (h1 p hp q hq).1.2
    rcases Nat.lt_or_gt_of_ne hpq with c | c
    · have := h3 q hq p c
      grind
    · exact h3 p hp q c
end
end Py
namespace Py
open PySem D
local macro_rules
  | `(tactic| walk_at "w") => `(tactic| with_reducible first
    | refine seq_nx ?_ | refine seq_rt ?_ | refine seq_bk ?_ | refine seq_ct ?_ | refine wp_seq ?_ | refine wp_asg ?_ | refine wp_next ?_ | refine wp_ret ?_ | refine wp_retN ?_ | refine wp_brk ?_ | refine wp_cont ?_ | refine wp_expr ?_ | refine wp_op ?_ | refine wp_un ?_ | refine wp_c ?_
    | refine unB ?_ | refine wp_truB ?_ | refine wp_and ?_ | refine wp_or ?_ | refine wp_not ?_ | refine wp_ifE ?_ | refine wp_tup ?_ | refine wp_lst ?_ | refine wp_lcons ?_ | refine wp_lnil ?_ | refine frzV ?_ | refine frzN ?_ | refine wp_frz ?_ | refine wp_sl ?_ | refine wp_onone ?_ | refine wp_osome ?_
    | refine wp_anil ?_ | refine wp_av ?_ | refine wp_andV ?_ | refine wp_orV ?_ | refine wp_notV ?_ | refine wp_fgtR ?_ | refine turn_nx ?_ | refine turn_rt ?_ | refine turn_bk ?_ | refine turn_ct ?_ | refine fgt_rt ?_ | refine wp_par ?_ | refine wp_chain ?_ | refine wp_seqI ?_)
local macro_rules
  | `(tactic| walk_at "put") => `(tactic| focus ((repeat apply PutR.s); first | exact PutR.z rfl | exact PutR.z (by assumption)))
local macro_rules
  | `(tactic| walk_at "set") => `(tactic| focus ((repeat apply SetR.s); first | exact SetR.o | exact SetR.r))
local macro_rules
  | `(tactic| walk_at "fgt") => `(tactic| focus (repeat first | exact FgtsR.nil | exact FgtR.k | exact FgtR.z rfl | exact FgtR.z (by assumption) | apply FgtR.s | apply FgtsR.cons))
local macro_rules
  | `(tactic| walk_at "x") => `(tactic| first
    | ((with_reducible apply wp_varV); (focus exact rfl)) | ((with_reducible apply wp_varO); (focus exact rfl)) | ((with_reducible apply wp_varR); (focus exact rfl))
    | ((with_reducible apply opq); (focus exact rfl); (focus exact rfl); (focus (first | exact ev_eqI | exact ev_neI | exact ev_ltI | exact ev_leI | exact ev_gtI | exact ev_geI | exact ev_in2 | exact ev_in2n | exact ev_in4n | exact ev_isT | exact ev_isF | exact ev_isnT | exact ev_isnF | exact ev_eqQ0 | exact ev_eqQ1 | exact ev_eqQ | exact ev_neQ | exact ev_strT | exact ev_strF n1 | exact ev_strF n2 | exact ev_strF n3 | exact ev_strF n4 | exact ev_strF n5 | exact ev_strF n6 | exact rfl)))
    | ((with_reducible apply unq); (focus exact rfl); (focus exact rfl))
    | ((with_reducible first | apply putqV | apply putqN); walk_at "put")
    | ((with_reducible apply putqB); (focus exact rfl); (focus exact rfl); walk_at "put"; walk_at "put")
    | ((with_reducible apply putq2); walk_at "put"; walk_at "put")
    | ((with_reducible apply parq); walk_at "put"; walk_at "put")
    | ((with_reducible apply wp_callR); (focus (repeat first | exact RefsR.nil | apply RefsR.v | apply RefsR.r)); (focus decide))
    | ((with_reducible apply wp_ar); (focus exact rfl))
    | ((with_reducible apply fin_rt); (focus exact rfl); (focus exact rfl))
    | ((with_reducible apply fin_nx); (focus exact rfl))
    | ((with_reducible apply wp_appendR); (focus exact rfl))
    | (with_reducible refine ⟨_, rfl, ?_⟩) | (with_reducible refine ⟨_, .inl rfl, ?_⟩) | (with_reducible refine ⟨_, .inr (.inl rfl), ?_⟩) | (with_reducible refine ⟨_, .inr (.inr rfl), ?_⟩)
    | (with_reducible apply callq0) | ((with_reducible apply frzB); (focus exact rfl); (focus exact rfl); walk_at "put")
    | ((with_reducible apply callq1); walk_at "set")
    | ((with_reducible apply callq2); walk_at "set"; walk_at "set")
    | ((with_reducible first | apply fgt_nx | apply fgt_bk | apply fgt_ct); walk_at "fgt")
    | ((with_reducible apply brT); (focus exact rfl)) | ((with_reducible apply brF); (focus exact rfl)))
local macro_rules
  | `(tactic| walk_at "r") => `(tactic| repeat first | walk_at "w" | walk_at "x")
local macro_rules
  | `(tactic| walk_at "ri") => `(tactic| repeat first | walk_at "w" | walk_at "x" | (with_reducible refine wp_if ?_))
local macro_rules
  | `(tactic| walk_at "app") => `(tactic| ((with_reducible apply appq); (focus exact rfl); (focus ((try simp only [List.length_map, List.length_nil, List.length_cons, List.length_append]); unfold line; omega)); walk_at "set"))
local macro_rules
  | `(tactic| walk_at "mul") => `(tactic| ((refine opq rfl rfl (ev_mul ?_) ?_); (focus (apply mulT <;> omega))))
local macro_rules
  | `(tactic| walk_at "rm") => `(tactic| repeat first | walk_at "w" | walk_at "x" | walk_at "mul")
local macro_rules
  | `(tactic| walk_at "len") => `(tactic| (refine And.intro ?_ ?_; (focus (simp [line]; done))))
local macro_rules
  | `(tactic| walk_at "rl") => `(tactic| repeat first | walk_at "w" | walk_at "x" | walk_at "len")
local macro_rules
  | `(tactic| walk_at "ril") => `(tactic| repeat first | walk_at "w" | walk_at "x" | walk_at "len" | (with_reducible refine wp_if ?_))
/-! QLl: the best of eight, plain. -/
def fourL (P : Nat → Nat → Int) : List Nat → List (Nat × Int)
  | [a, b, c, e] => [(a, P a b * (P c e * P a c + P e c * P a e)), (b, P b a * (P c e * P b c + P e c * P b e)), (c, P c e * (P a b * P c a + P b a * P c b)), (e, P e c * (P a b * P e a + P b a * P e b))]
  | _ => []
def lkI (L : List (Nat × Int)) (p : Nat) : Int := ((L.find? fun z => decide (z.1 = p)).map (·.2)).getD 0
def metI (P : Nat → Nat → Int) (pl : Nat) (s : List Nat) : Int := (s.map fun x => lkI (fourL P s) x * P pl x).sum
def topI (P : Nat → Nat → Int) (pl : Nat) (y : List Nat × List Nat) : Int := if pl ∈ y.2 then lkI (fourL P y.2) pl * metI P pl y.1 else lkI (fourL P y.1) pl * metI P pl y.2
def kvI (L : List (Nat × Int)) : List (Key × PV) := L.map fun z => (.inl (z.1 : Int), .int z.2)
structure Prt (d : Nat) (P : Nat → Nat → Int) (C : Nat → Nat → Rat) : Prop where
  pos : 1 ≤ d
  le : d ≤ 6
  eq : ∀ p, p < 8 → ∀ q, q < 8 → (P p q : Rat) = (d : Rat) * C p q
  small : ∀ p, p < 8 → ∀ q, q < 8 → (P p q).natAbs < 2 ^ 3
section
variable {C : Nat → Nat → Rat} {P : Nat → Nat → Int} {d pl : Nat}
theorem four_fst {s : List Nat} (h : s.length = 4) : (fourL P s).map (·.1) = s := by
  match s, h with
  | [a, b, c, e], _ => rfl
theorem lkI_mem {L : List (Nat × Int)} (h : (L.map (·.1)).Nodup) {z : Nat × Int} (hz : z ∈ L) : lkI L z.1 = z.2 := by
  unfold lkI
  induction L with
  | nil => cases hz
  | cons y L ih =>
    rw [List.map_cons, List.nodup_cons] at h
    rw [List.find?_cons]
    rcases List.mem_cons.mp hz with rfl | hz
    · simp
    · have : y.1 ≠ z.1 := fun e => h.1 (by rw [e]; exact List.mem_map.mpr ⟨z, hz, rfl⟩)
      rw [decide_eq_false this]
      exact ih h.2 hz
theorem get_kvI {L : List (Nat × Int)} {p : Nat} (hp : p ∈ L.map (·.1)) : dGet (kvI L) (.inl (p : Int)) = some (.int (lkI L p)) := by
  unfold dGet kvI lkI
  induction L with
  | nil => cases hp
  | cons y L ih =>
    rw [List.map_cons, List.find?_cons, List.find?_cons]
    by_cases e : y.1 = p
    · have h2 : decide ((Sum.inl (y.1 : Int) : Key) = Sum.inl (p : Int)) = true := decide_eq_true (by rw [e])
      simp [e]
    · have h3 : ¬ (y.1 : Int) = (p : Int) := by omega
      have hp' : p ∈ L.map (·.1) := (List.mem_cons.mp (by rw [← List.map_cons]; exact hp)).resolve_left fun z => e z.symm
      have := ih hp'
      simp [e, h3] at this ⊢
      exact this
theorem four_small (hP : Prt d P C) {s : List Nat} (hl : s.length = 4) (hs : ∀ p ∈ s, p < 8) : ∀ z ∈ fourL P s, z.2.natAbs < 2 ^ 10 := by
  match s, hl with
  | [a, b, c, e], _ =>
    have ha := hs a (by simp)
    have hb := hs b (by simp)
    have hc := hs c (by simp)
    have he := hs e (by simp)
    have key : ∀ u v w x y z : Nat, u < 8 → v < 8 → w < 8 → x < 8 → (P u v * (P w x * P u w + P x w * P u x)).natAbs < 2 ^ 10 := fun u v w x _ _ h1 h2 h3 h4 =>
      nlt_mul (hP.small u h1 v h2) (nlt_add (nlt_mul (hP.small w h3 x h4) (hP.small u h1 w h3)) (nlt_mul (hP.small x h4 w h3) (hP.small u h1 x h4)))
    intro z hz
    simp only [fourL, List.mem_cons, List.not_mem_nil, or_false] at hz
    rcases hz with rfl | rfl | rfl | rfl
    · exact key a b c e 0 0 ha hb hc he
    · exact key b a c e 0 0 hb ha hc he
    · exact key c e a b 0 0 hc he ha hb
    · exact key e c a b 0 0 he hc ha hb
theorem lkI_small (hP : Prt d P C) {s : List Nat} (hl : s.length = 4) (hs : ∀ p ∈ s, p < 8) {x : Nat} : (lkI (fourL P s) x).natAbs < 2 ^ 10 := by
  unfold lkI
  cases e : (fourL P s).find? fun z => decide (z.1 = x) with
  | none => exact show (0 : Int).natAbs < 2 ^ 10 by decide
  | some z => exact four_small hP hl hs z (List.mem_of_find?_eq_some e)
theorem met_small (hP : Prt d P C) (hpl : pl < 8) {s : List Nat} (hl : s.length = 4) (hs : ∀ p ∈ s, p < 8) : (metI P pl s).natAbs < 2 ^ 17 := by
  unfold metI
  have h : ∀ x ∈ s, (lkI (fourL P s) x * P pl x).natAbs < 2 ^ 13 := fun x hx => nlt_mul (lkI_small hP hl hs) (hP.small pl hpl x (hs x hx))
  match s, hl with
  | [a, b, c, e], _ =>
    have ha := h a (by simp)
    have hb := h b (by simp)
    have hc := h c (by simp)
    have he := h e (by simp)
    simp only [List.map_cons, List.map_nil, List.sum_cons, List.sum_nil] at *
    omega
theorem top_small (hP : Prt d P C) (hpl : pl < 8) {y : List Nat × List Nat} (h1 : y.1.length = 4) (h2 : y.2.length = 4) (hs : ∀ p ∈ y.1 ++ y.2, p < 8) : (topI P pl y).natAbs < 2 ^ 27 := by
  have hs1 : ∀ p ∈ y.1, p < 8 := fun p h => hs p (List.mem_append_left _ h)
  have hs2 : ∀ p ∈ y.2, p < 8 := fun p h => hs p (List.mem_append_right _ h)
  unfold topI
  by_cases c : pl ∈ y.2
  · rw [if_pos c]; exact nlt_mul (lkI_small hP h2 hs2) (met_small hP hpl h1 hs1)
  · rw [if_neg c]; exact nlt_mul (lkI_small hP h1 hs1) (met_small hP hpl h2 hs2)
/-- the ladder of four -/
theorem four_wl (hP : Prt d P C) {s : List Nat} (hl : s.length = 4) (hs : ∀ p ∈ s, p < 8) : ∀ z ∈ fourL P s, ∃ r : Rat, (z.1, r) ∈ (mkT 2 s).wl C ∧ (z.2 : Rat) = (d : Rat) * (d : Rat) * (d : Rat) * r := by
  match s, hl with
  | [a, b, c, e], _ =>
    have ha := hs a (by simp)
    have hb := hs b (by simp)
    have hc := hs c (by simp)
    have he := hs e (by simp)
    have hw : (mkT 2 [a, b, c, e]).wl C = [(a, C a b * (C c e * C a c + C e c * C a e)), (b, C b a * (C c e * C b c + C e c * C b e)), (c, C c e * (C a b * C c a + C b a * C c b)), (e, C e c * (C a b * C e a + C b a * C e b))] := by
      rw [wp_4]
      simp only [duel, metR, List.map_cons, List.map_nil, List.sum_cons, List.sum_nil, List.cons_append, List.nil_append]
      simp only [List.cons.injEq, Prod.mk.injEq, true_and, and_true]
      refine ⟨?_, ?_, ?_, ?_⟩ <;> grind
    have key : ∀ u v w x : Nat, u < 8 → v < 8 → w < 8 → x < 8 → ((P u v * (P w x * P u w + P x w * P u x) : Int) : Rat) = (d : Rat) * (d : Rat) * (d : Rat) * (C u v * (C w x * C u w + C x w * C u x)) := fun u v w x h1 h2 h3 h4 => by
      rw [Rat.intCast_mul, Rat.intCast_add, Rat.intCast_mul, Rat.intCast_mul, hP.eq u h1 v h2, hP.eq w h3 x h4, hP.eq u h1 w h3, hP.eq x h4 w h3, hP.eq u h1 x h4]
      grind
    intro z hz
    rw [hw]
    simp only [fourL, List.mem_cons, List.not_mem_nil, or_false] at hz
    rcases hz with rfl | rfl | rfl | rfl
    · exact ⟨_, by simp, key a b c e ha hb hc he⟩
    · exact ⟨_, List.mem_cons_of_mem _ (List.mem_cons_self ..), key b a c e hb ha hc he⟩
    · exact ⟨_, List.mem_cons_of_mem _ (List.mem_cons_of_mem _ (List.mem_cons_self ..)), key c e a b hc he ha hb⟩
    · exact ⟨_, List.mem_cons_of_mem _ (List.mem_cons_of_mem _ (List.mem_cons_of_mem _ (List.mem_cons_self ..))), key e c a b he hc ha hb⟩
theorem four_lk (hP : Prt d P C) {s : List Nat} (hl : s.length = 4) (hn : s.Nodup) (hs : ∀ p ∈ s, p < 8) {x : Nat} (hx : x ∈ s) : (lkI (fourL P s) x : Rat) = (d : Rat) * (d : Rat) * (d : Rat) * lk ((mkT 2 s).wl C) x := by
  have hf := four_fst (P := P) hl
  obtain ⟨z, hz, rfl⟩ := List.mem_map.mp (show x ∈ (fourL P s).map (·.1) by rw [hf]; exact hx)
  obtain ⟨r, h1, h2⟩ := four_wl hP hl hs z hz
  rw [lkI_mem (by rw [hf]; exact hn) hz, h2]
  have := lk_mem (by rw [wl_fstk (k := 2) hl]; exact hn) h1
  dsimp only at this
  rw [this]
theorem sumL_mul {f g : Nat → Rat} {k : Rat} : ∀ {l : List Nat}, (∀ x ∈ l, f x = k * g x) → (l.map f).sum = k * (l.map g).sum
  | [], _ => by simp
  | x :: l, h => by
    rw [List.map_cons, List.map_cons, List.sum_cons, List.sum_cons, h x (List.mem_cons_self ..), sumL_mul fun y hy => h y (List.mem_cons_of_mem _ hy)]
    grind
theorem cast_sum : ∀ {l : List Int}, ((l.sum : Int) : Rat) = (l.map fun x : Int => (x : Rat)).sum
  | [] => rfl
  | x :: l => by rw [List.sum_cons, Rat.intCast_add, cast_sum, List.map_cons, List.sum_cons]
theorem met_met (hP : Prt d P C) (hpl : pl < 8) {s : List Nat} (hl : s.length = 4) (hn : s.Nodup) (hs : ∀ p ∈ s, p < 8) : (metI P pl s : Rat) = (d : Rat) * (d : Rat) * (d : Rat) * (d : Rat) * metR C pl ((mkT 2 s).wl C) := by
  have hf := wl_fstk (C := C) (k := 2) hl
  have e1 : metR C pl ((mkT 2 s).wl C) = (s.map fun x => lk ((mkT 2 s).wl C) x * C pl x).sum := by
    unfold metR
    have : s.map (fun x => lk ((mkT 2 s).wl C) x * C pl x) = (((mkT 2 s).wl C).map (·.1)).map fun x => lk ((mkT 2 s).wl C) x * C pl x := by rw [hf]
    rw [this, List.map_map]
    congr 1
    refine List.map_congr_left fun z hz => ?_
    show z.2 * C pl z.1 = lk ((mkT 2 s).wl C) z.1 * C pl z.1
    rw [lk_mem (by rw [hf]; exact hn) hz]
  unfold metI
  rw [cast_sum, List.map_map, e1]
  refine sumL_mul fun x hx => ?_
  show ((lkI (fourL P s) x * P pl x : Int) : Rat) = _
  rw [Rat.intCast_mul, four_lk hP hl hn hs hx, hP.eq pl hpl x (hs x hx)]
  grind
theorem lk_scale {f : Nat → Rat} {L : List (Nat × Rat)} (h : (L.map (·.1)).Nodup) {x : Nat} (hx : x ∈ L.map (·.1)) : lk (L.map fun z => (z.1, z.2 * f z.1)) x = lk L x * f x := by
  obtain ⟨z, hz, rfl⟩ := List.mem_map.mp hx
  rw [lk_mem h hz]
  have h2 : ((L.map fun z => (z.1, z.2 * f z.1)).map (·.1)).Nodup := by rw [List.map_map]; exact h
  exact lk_mem h2 (z := (z.1, z.2 * f z.1)) (List.mem_map.mpr ⟨z, hz, rfl⟩)
theorem top_eq (hP : Prt d P C) (hpl : pl < 8) {y : List Nat × List Nat} (h1 : y.1.length = 4) (h2 : y.2.length = 4) (hp : (y.1 ++ y.2).Perm (List.range 8)) : (topI P pl y : Rat) = (((d * d * d * d * d * d * d : Nat) : Int) : Rat) * fW C 3 pl (y.1 ++ y.2) := by
  have hs : ∀ p ∈ y.1 ++ y.2, p < 8 := fun p h => List.mem_range.mp (hp.mem_iff.mp h)
  have hs1 : ∀ p ∈ y.1, p < 8 := fun p h => hs p (List.mem_append_left _ h)
  have hs2 : ∀ p ∈ y.2, p < 8 := fun p h => hs p (List.mem_append_right _ h)
  obtain ⟨n1, n2, n3⟩ := List.nodup_append.mp (hp.nodup_iff.mpr List.nodup_range)
  have f1 := wl_fstk (C := C) (k := 2) h1
  have f2 := wl_fstk (C := C) (k := 2) h2
  have hD : (((d * d * d * d * d * d * d : Nat) : Int) : Rat) = (d : Rat) * (d : Rat) * (d : Rat) * (d : Rat) * (d : Rat) * (d : Rat) * (d : Rat) := by
    rw [Rat.intCast_natCast, Rat.natCast_mul, Rat.natCast_mul, Rat.natCast_mul, Rat.natCast_mul, Rat.natCast_mul, Rat.natCast_mul]
  have hpm : pl ∈ y.1 ++ y.2 := hp.mem_iff.mpr (List.mem_range.mpr hpl)
  have g1 : ∀ {M : List (Nat × Rat)}, (((mkT 2 y.1).wl C).map fun z => (z.1, z.2 * metR C z.1 M)).map (·.1) = y.1 := fun {M} => by rw [List.map_map]; exact f1
  unfold fW
  rw [mk_two (k := 2) h1, Tr.wl, hD]
  unfold topI duel
  by_cases c : pl ∈ y.2
  · have c1 : pl ∉ y.1 := fun z => n3 pl z pl c rfl
    rw [if_pos c, lk_right (by rw [g1]; exact c1), lk_scale (f := fun x => metR C x ((mkT 2 y.1).wl C)) (by rw [f2]; exact n2) (by rw [f2]; exact c), Rat.intCast_mul, four_lk hP h2 n2 hs2 c, met_met hP hpl h1 n1 hs1]
    grind
  · have c1 : pl ∈ y.1 := (List.mem_append.mp hpm).resolve_right c
    rw [if_neg c, lk_left (by rw [g1]; exact c1), lk_scale (f := fun x => metR C x ((mkT 2 y.2).wl C)) (by rw [f1]; exact n1) (by rw [f1]; exact c1), Rat.intCast_mul, four_lk hP h1 n1 hs1 c1, met_met hP hpl h2 n2 hs2]
    grind
end
end Py
namespace Py
open PySem D
local macro_rules
  | `(tactic| walk_at "w") => `(tactic| with_reducible first
    | refine seq_nx ?_ | refine seq_rt ?_ | refine seq_bk ?_ | refine seq_ct ?_ | refine wp_seq ?_ | refine wp_asg ?_ | refine wp_next ?_ | refine wp_ret ?_ | refine wp_retN ?_ | refine wp_brk ?_ | refine wp_cont ?_ | refine wp_expr ?_ | refine wp_op ?_ | refine wp_un ?_ | refine wp_c ?_
    | refine unB ?_ | refine wp_truB ?_ | refine wp_and ?_ | refine wp_or ?_ | refine wp_not ?_ | refine wp_ifE ?_ | refine wp_tup ?_ | refine wp_lst ?_ | refine wp_lcons ?_ | refine wp_lnil ?_ | refine frzV ?_ | refine frzN ?_ | refine wp_frz ?_ | refine wp_sl ?_ | refine wp_onone ?_ | refine wp_osome ?_
    | refine wp_anil ?_ | refine wp_av ?_ | refine wp_andV ?_ | refine wp_orV ?_ | refine wp_notV ?_ | refine wp_fgtR ?_ | refine turn_nx ?_ | refine turn_rt ?_ | refine turn_bk ?_ | refine turn_ct ?_ | refine fgt_rt ?_ | refine wp_par ?_ | refine wp_chain ?_ | refine wp_seqI ?_)
local macro_rules
  | `(tactic| walk_at "put") => `(tactic| focus ((repeat apply PutR.s); first | exact PutR.z rfl | exact PutR.z (by assumption)))
local macro_rules
  | `(tactic| walk_at "set") => `(tactic| focus ((repeat apply SetR.s); first | exact SetR.o | exact SetR.r))
local macro_rules
  | `(tactic| walk_at "fgt") => `(tactic| focus (repeat first | exact FgtsR.nil | exact FgtR.k | exact FgtR.z rfl | exact FgtR.z (by assumption) | apply FgtR.s | apply FgtsR.cons))
local macro_rules
  | `(tactic| walk_at "x") => `(tactic| first
    | ((with_reducible apply wp_varV); (focus exact rfl)) | ((with_reducible apply wp_varO); (focus exact rfl)) | ((with_reducible apply wp_varR); (focus exact rfl))
    | ((with_reducible apply opq); (focus exact rfl); (focus exact rfl); (focus (first | exact ev_eqI | exact ev_neI | exact ev_ltI | exact ev_leI | exact ev_gtI | exact ev_geI | exact ev_in2 | exact ev_in2n | exact ev_in4n | exact ev_isT | exact ev_isF | exact ev_isnT | exact ev_isnF | exact ev_eqQ0 | exact ev_eqQ1 | exact ev_eqQ | exact ev_neQ | exact ev_strT | exact ev_strF n1 | exact ev_strF n2 | exact ev_strF n3 | exact ev_strF n4 | exact ev_strF n5 | exact ev_strF n6 | exact rfl)))
    | ((with_reducible apply unq); (focus exact rfl); (focus exact rfl))
    | ((with_reducible first | apply putqV | apply putqN); walk_at "put")
    | ((with_reducible apply putqB); (focus exact rfl); (focus exact rfl); walk_at "put"; walk_at "put")
    | ((with_reducible apply putq2); walk_at "put"; walk_at "put")
    | ((with_reducible apply parq); walk_at "put"; walk_at "put")
    | ((with_reducible apply wp_callR); (focus (repeat first | exact RefsR.nil | apply RefsR.v | apply RefsR.r)); (focus decide))
    | ((with_reducible apply wp_ar); (focus exact rfl))
    | ((with_reducible apply fin_rt); (focus exact rfl); (focus exact rfl))
    | ((with_reducible apply fin_nx); (focus exact rfl))
    | ((with_reducible apply wp_appendR); (focus exact rfl))
    | (with_reducible refine ⟨_, rfl, ?_⟩) | (with_reducible refine ⟨_, .inl rfl, ?_⟩) | (with_reducible refine ⟨_, .inr (.inl rfl), ?_⟩) | (with_reducible refine ⟨_, .inr (.inr rfl), ?_⟩)
    | (with_reducible apply callq0) | ((with_reducible apply frzB); (focus exact rfl); (focus exact rfl); walk_at "put")
    | ((with_reducible apply callq1); walk_at "set")
    | ((with_reducible apply callq2); walk_at "set"; walk_at "set")
    | ((with_reducible first | apply fgt_nx | apply fgt_bk | apply fgt_ct); walk_at "fgt")
    | ((with_reducible apply brT); (focus exact rfl)) | ((with_reducible apply brF); (focus exact rfl)))
local macro_rules
  | `(tactic| walk_at "r") => `(tactic| repeat first | walk_at "w" | walk_at "x")
local macro_rules
  | `(tactic| walk_at "ri") => `(tactic| repeat first | walk_at "w" | walk_at "x" | (with_reducible refine wp_if ?_))
local macro_rules
  | `(tactic| walk_at "app") => `(tactic| ((with_reducible apply appq); (focus exact rfl); (focus ((try simp only [List.length_map, List.length_nil, List.length_cons, List.length_append]); unfold line; omega)); walk_at "set"))
local macro_rules
  | `(tactic| walk_at "mul") => `(tactic| ((refine opq rfl rfl (ev_mul ?_) ?_); (focus (apply mulT <;> omega))))
local macro_rules
  | `(tactic| walk_at "rm") => `(tactic| repeat first | walk_at "w" | walk_at "x" | walk_at "mul")
local macro_rules
  | `(tactic| walk_at "len") => `(tactic| (refine And.intro ?_ ?_; (focus (simp [line]; done))))
local macro_rules
  | `(tactic| walk_at "rl") => `(tactic| repeat first | walk_at "w" | walk_at "x" | walk_at "len")
local macro_rules
  | `(tactic| walk_at "ril") => `(tactic| repeat first | walk_at "w" | walk_at "x" | walk_at "len" | (with_reducible refine wp_if ?_))
/-! QLm: the chances of four, walked. -/
def rowI (P : Nat → Nat → Int) (p : Nat) : List PV := (List.range 8).map fun q => .int (P p q)
def partsV (P : Nat → Nat → Int) : PV := .list ((List.range 8).map fun p => .list (rowI P p))
theorem ix_row {P : Nat → Nat → Int} {a : Nat} (h : a < 8) : fIx (.pv (partsV P)) (.pv (natI a)) = some (.val (.list (rowI P a))) := ev_ix (a := (a : Int)) (.inr (.inl rfl)) (atI_nat (by simp [h]))
theorem ix_cell {P : Nat → Nat → Int} {a b : Nat} (h : b < 8) : fIx (.pv (.list (rowI P a))) (.pv (natI b)) = some (.val (.int (P a b))) := ev_ix (a := (b : Int)) (.inr (.inl rfl)) (atI_nat (by simp [rowI, h]))
theorem wp_dputK {i : Nat} {e a : M} {ρ : Env} {QS : Fl → Env → Prop} (h : Wp a ρ fun x ρ1 => FrzQ x ρ1 fun v ρ2 => ∃ kvs0, dctAt ρ2 i = some kvs0 ∧ Wp e ρ2 fun y ρ3 => ∃ c k kvs ρ4, look y ρ3 = some c ∧ keyC c = some k ∧ dctAt ρ3 i = some kvs ∧ kvs.length < line ∧ SetR ρ3 i (.dct (dPut kvs k v)) ρ4 ∧ QS .nx ρ4) : Wp (Py.sDput i e a) ρ QS := by
  obtain ⟨x, ρ1, e1, v, ρ2, e2, kvs0, e3, y, ρ3, e4, c, k, kvs, ρ4, e5, e6, e7, e8, e9, q⟩ := h
  refine ⟨.nx, ρ4, ?_, q⟩
  rw [← e9.eq]
  simp [Py.sDput, e1, e2, e3, e4, e5, e6, e7, e8]
local macro_rules
  | `(tactic| walk_at "k") => `(tactic| repeat first | walk_at "w" | walk_at "x" | walk_at "len" | (with_reducible refine wp_if ?_) | (refine opq rfl rfl (ix_row (by assumption)) ?_) | (refine opq rfl rfl (ix_cell (by assumption)) ?_))
section
variable {Q : R → List Ob → Prop} {C : Nat → Nat → Rat} {P : Nat → Nat → Int} {d pl : Nat}
theorem put_I {L : List (Nat × Int)} {a : Nat} {v : Int} (h : a ∉ L.map (·.1)) : dPut (kvI L) (.inl (a : Int)) (.int v) = kvI (L ++ [(a, v)]) := by
  rw [put_new]
  · unfold kvI
    rw [List.map_append]
    rfl
  · intro kv hkv e
    obtain ⟨z, hz, rfl⟩ := List.mem_map.mp hkv
    have e' : (z.1 : Int) = (a : Int) := Sum.inl.inj e
    exact h (List.mem_map.mpr ⟨z, hz, by omega⟩)
theorem of_four (hP : Prt d P C) {s : List Nat} (hl : s.length = 4) (hn : s.Nodup) (hs : ∀ p ∈ s, p < 8) (q : Q (.new (.dct (kvI (fourL P s)))) []) : Ret d_law_four_chances [.val (partsV P), .val (tupN s)] Q := by
  have hln : (line : Nat) = 16777216 := rfl
  match s, hl with
  | [a, b, c, e], _ =>
    have ha := hs a (by simp)
    have hb := hs b (by simp)
    have hc := hs c (by simp)
    have he := hs e (by simp)
    have hM : ∀ u v w x : Nat, u < 8 → v < 8 → w < 8 → x < 8 → mulOk (P w x) (P u w) = true ∧ mulOk (P x w) (P u x) = true ∧ mulOk (P u v) (P w x * P u w + P x w * P u x) = true := fun u v w x h1 h2 h3 h4 =>
      ⟨mulOk_of _ _ (hP.small w h3 x h4) (hP.small u h1 w h3) (by omega), mulOk_of _ _ (hP.small x h4 w h3) (hP.small u h1 x h4) (by omega),
       mulOk_of _ _ (hP.small u h1 v h2) (nlt_add (nlt_mul (hP.small w h3 x h4) (hP.small u h1 w h3)) (nlt_mul (hP.small x h4 w h3) (hP.small u h1 x h4))) (by omega)⟩
    have hnd := hn
    simp only [List.nodup_cons, List.mem_cons, List.not_mem_nil, or_false, not_or] at hnd
    obtain ⟨⟨n1, n2, n3⟩, ⟨n4, n5⟩, n6, _⟩ := hnd
    refine ret_mkR (by repeat constructor) ?_
    unfold b_law_four_chances
    walk_at "rl"
    refine ⟨_, _, rfl, ?_⟩
    walk_at "rl"
    refine wp_forN (fun i ρ => ρ = [some (.val (partsV P)), some (.val (tupN [a, b, c, e])), some (.own (.dct (kvI ((fourL P [a, b, c, e]).take i)))), none, none, none, none, none, none]) 4 ?_ ?_ ?_
    · walk_at "rl"
      exact ⟨rfl, by omega, rfl⟩
    · rintro i _ hi rfl
      unfold l1_law_four_chances
      obtain rfl | rfl | rfl | rfl : i = 0 ∨ i = 1 ∨ i = 2 ∨ i = 3 := by omega
      · obtain ⟨m1, m2, m3⟩ := hM a b c e ha hb hc he
        walk_at "k"
        first
          | skip
        refine opq rfl rfl (ev_mul m1) ?_
        walk_at "k"
        refine opq rfl rfl (ev_mul m2) ?_
        walk_at "k"
        refine wp_dputK ?_
        walk_at "k"
        refine opq rfl rfl (ev_mul m3) ?_
        walk_at "k"
        refine ⟨_, _, _, _, rfl, rfl, rfl, by simp [kvI, fourL, line], by walk_at "set", ?_⟩
        walk_at "k"
        rw [show (.inl (a : Int) : Key) = Sum.inl ((a : Nat) : Int) from rfl, put_I (by simp [fourL]; try omega)]
        rfl
      · obtain ⟨m1, m2, m3⟩ := hM b a c e hb ha hc he
        walk_at "k"
        first
          | skip
        refine opq rfl rfl (ev_mul m1) ?_
        walk_at "k"
        refine opq rfl rfl (ev_mul m2) ?_
        walk_at "k"
        refine wp_dputK ?_
        walk_at "k"
        refine opq rfl rfl (ev_mul m3) ?_
        walk_at "k"
        refine ⟨_, _, _, _, rfl, rfl, rfl, by simp [kvI, fourL, line], by walk_at "set", ?_⟩
        walk_at "k"
        rw [show (.inl (b : Int) : Key) = Sum.inl ((b : Nat) : Int) from rfl, put_I (by simp [fourL]; try omega)]
        rfl
      · obtain ⟨m1, m2, m3⟩ := hM c e a b hc he ha hb
        walk_at "k"
        first
          | skip
        refine opq rfl rfl (ev_mul m1) ?_
        walk_at "k"
        refine opq rfl rfl (ev_mul m2) ?_
        walk_at "k"
        refine wp_dputK ?_
        walk_at "k"
        refine opq rfl rfl (ev_mul m3) ?_
        walk_at "k"
        refine ⟨_, _, _, _, rfl, rfl, rfl, by simp [kvI, fourL, line], by walk_at "set", ?_⟩
        walk_at "k"
        rw [show (.inl (c : Int) : Key) = Sum.inl ((c : Nat) : Int) from rfl, put_I (by simp [fourL]; try omega)]
        rfl
      · obtain ⟨m1, m2, m3⟩ := hM e c a b he hc ha hb
        walk_at "k"
        first
          | skip
        refine opq rfl rfl (ev_mul m1) ?_
        walk_at "k"
        refine opq rfl rfl (ev_mul m2) ?_
        walk_at "k"
        refine wp_dputK ?_
        walk_at "k"
        refine opq rfl rfl (ev_mul m3) ?_
        walk_at "k"
        refine ⟨_, _, _, _, rfl, rfl, rfl, by simp [kvI, fourL, line], by walk_at "set", ?_⟩
        walk_at "k"
        rw [show (.inl (e : Int) : Key) = Sum.inl ((e : Nat) : Int) from rfl, put_I (by simp [fourL]; try omega)]
        rfl
    · rintro _ rfl
      walk_at "rl"
      exact q
end
end Py
namespace Py
open PySem D
local macro_rules
  | `(tactic| walk_at "w") => `(tactic| with_reducible first
    | refine seq_nx ?_ | refine seq_rt ?_ | refine seq_bk ?_ | refine seq_ct ?_ | refine wp_seq ?_ | refine wp_asg ?_ | refine wp_next ?_ | refine wp_ret ?_ | refine wp_retN ?_ | refine wp_brk ?_ | refine wp_cont ?_ | refine wp_expr ?_ | refine wp_op ?_ | refine wp_un ?_ | refine wp_c ?_
    | refine unB ?_ | refine wp_truB ?_ | refine wp_and ?_ | refine wp_or ?_ | refine wp_not ?_ | refine wp_ifE ?_ | refine wp_tup ?_ | refine wp_lst ?_ | refine wp_lcons ?_ | refine wp_lnil ?_ | refine frzV ?_ | refine frzN ?_ | refine wp_frz ?_ | refine wp_sl ?_ | refine wp_onone ?_ | refine wp_osome ?_
    | refine wp_anil ?_ | refine wp_av ?_ | refine wp_andV ?_ | refine wp_orV ?_ | refine wp_notV ?_ | refine wp_fgtR ?_ | refine turn_nx ?_ | refine turn_rt ?_ | refine turn_bk ?_ | refine turn_ct ?_ | refine fgt_rt ?_ | refine wp_par ?_ | refine wp_chain ?_ | refine wp_seqI ?_)
local macro_rules
  | `(tactic| walk_at "put") => `(tactic| focus ((repeat apply PutR.s); first | exact PutR.z rfl | exact PutR.z (by assumption)))
local macro_rules
  | `(tactic| walk_at "set") => `(tactic| focus ((repeat apply SetR.s); first | exact SetR.o | exact SetR.r))
local macro_rules
  | `(tactic| walk_at "fgt") => `(tactic| focus (repeat first | exact FgtsR.nil | exact FgtR.k | exact FgtR.z rfl | exact FgtR.z (by assumption) | apply FgtR.s | apply FgtsR.cons))
local macro_rules
  | `(tactic| walk_at "x") => `(tactic| first
    | ((with_reducible apply wp_varV); (focus exact rfl)) | ((with_reducible apply wp_varO); (focus exact rfl)) | ((with_reducible apply wp_varR); (focus exact rfl))
    | ((with_reducible apply opq); (focus exact rfl); (focus exact rfl); (focus (first | exact ev_eqI | exact ev_neI | exact ev_ltI | exact ev_leI | exact ev_gtI | exact ev_geI | exact ev_in2 | exact ev_in2n | exact ev_in4n | exact ev_isT | exact ev_isF | exact ev_isnT | exact ev_isnF | exact ev_eqQ0 | exact ev_eqQ1 | exact ev_eqQ | exact ev_neQ | exact ev_strT | exact ev_strF n1 | exact ev_strF n2 | exact ev_strF n3 | exact ev_strF n4 | exact ev_strF n5 | exact ev_strF n6 | exact rfl)))
    | ((with_reducible apply unq); (focus exact rfl); (focus exact rfl))
    | ((with_reducible first | apply putqV | apply putqN); walk_at "put")
    | ((with_reducible apply putqB); (focus exact rfl); (focus exact rfl); walk_at "put"; walk_at "put")
    | ((with_reducible apply putq2); walk_at "put"; walk_at "put")
    | ((with_reducible apply parq); walk_at "put"; walk_at "put")
    | ((with_reducible apply wp_callR); (focus (repeat first | exact RefsR.nil | apply RefsR.v | apply RefsR.r)); (focus decide))
    | ((with_reducible apply wp_ar); (focus exact rfl))
    | ((with_reducible apply fin_rt); (focus exact rfl); (focus exact rfl))
    | ((with_reducible apply fin_nx); (focus exact rfl))
    | ((with_reducible apply wp_appendR); (focus exact rfl))
    | (with_reducible refine ⟨_, rfl, ?_⟩) | (with_reducible refine ⟨_, .inl rfl, ?_⟩) | (with_reducible refine ⟨_, .inr (.inl rfl), ?_⟩) | (with_reducible refine ⟨_, .inr (.inr rfl), ?_⟩)
    | (with_reducible apply callq0) | ((with_reducible apply frzB); (focus exact rfl); (focus exact rfl); walk_at "put")
    | ((with_reducible apply callq1); walk_at "set")
    | ((with_reducible apply callq2); walk_at "set"; walk_at "set")
    | ((with_reducible first | apply fgt_nx | apply fgt_bk | apply fgt_ct); walk_at "fgt")
    | ((with_reducible apply brT); (focus exact rfl)) | ((with_reducible apply brF); (focus exact rfl)))
local macro_rules
  | `(tactic| walk_at "r") => `(tactic| repeat first | walk_at "w" | walk_at "x")
local macro_rules
  | `(tactic| walk_at "ri") => `(tactic| repeat first | walk_at "w" | walk_at "x" | (with_reducible refine wp_if ?_))
local macro_rules
  | `(tactic| walk_at "app") => `(tactic| ((with_reducible apply appq); (focus exact rfl); (focus ((try simp only [List.length_map, List.length_nil, List.length_cons, List.length_append]); unfold line; omega)); walk_at "set"))
local macro_rules
  | `(tactic| walk_at "mul") => `(tactic| ((refine opq rfl rfl (ev_mul ?_) ?_); (focus (apply mulT <;> omega))))
local macro_rules
  | `(tactic| walk_at "rm") => `(tactic| repeat first | walk_at "w" | walk_at "x" | walk_at "mul")
local macro_rules
  | `(tactic| walk_at "len") => `(tactic| (refine And.intro ?_ ?_; (focus (simp [line]; done))))
local macro_rules
  | `(tactic| walk_at "rl") => `(tactic| repeat first | walk_at "w" | walk_at "x" | walk_at "len")
local macro_rules
  | `(tactic| walk_at "ril") => `(tactic| repeat first | walk_at "w" | walk_at "x" | walk_at "len" | (with_reducible refine wp_if ?_))
/-! QLn: all twins, walked. -/
abbrev twV (p : List Nat × List Nat) : PV := .tuple [tupN p.1, tupN p.2]
theorem wp_lcNTK {i : Nat} {a e : M} {t : MT} {ρ ρ1 : Env} {Q : R → Env → Prop} (n : Nat) (p : Nat → Bool) (hv : Nat → PV) (hi : i < ρ1.length) (hl : n ≤ line)
    (h : Wp a ρ fun x ρ' => look x ρ' = some (.pv (.int n)) ∧ ρ' = ρ1)
    (ht : ∀ k, k < n → Wp t (List.set ρ1 i (some (.val (natI k)))) fun b ρ3 => b = p k ∧ ρ3 = List.set ρ1 i (some (.val (natI k))))
    (step : ∀ k, k < n → Wp e (List.set ρ1 i (some (.val (natI k)))) fun r ρ3 => FrzQ r ρ3 fun v ρ4 => v = hv k ∧ ρ4 = List.set ρ1 i (some (.val (natI k))))
    (q : Q (.new (.lst (((List.range n).filter p).map hv))) ρ1) : Wp (mLc (iRng1 a) (gName i) [i] t e) ρ Q := by
  refine wp_lc natI (fun done acc ρ' => acc = ((List.range done.length).filter p).map hv ∧ ∃ u, ρ' = List.set ρ1 i u) ?_
  refine wp_rng1 (h.mono fun x ρ' ⟨h1, h2⟩ => ⟨n, h1, ⟨by exact_mod_cast hl, by omega⟩, ?_⟩)
  subst h2
  refine ⟨List.range n, by simp [natI], by simpa using hl, ⟨rfl, get ρ' i, ?_⟩, ?_, ?_⟩
  · unfold get
    rw [List.getElem?_eq_getElem hi]
    simp
  · rintro done y rest acc _ e3 ⟨rfl, u, rfl⟩
    obtain ⟨hy, hy2⟩ := range_eq e3
    rw [← hy]
    have hg : get (List.set ρ' i none) i = none := by
      unfold get
      rw [List.getElem?_set_self hi]
      rfl
    refine ⟨List.set ρ' i (some (.val (natI y))), ?_, (ht y hy2).mono fun b ρ3 ⟨e4, e5⟩ => ?_⟩
    · show put i (some (.val (natI y))) (List.set (List.set ρ' i u) i none) = _
      rw [set_set]
      unfold put
      rw [hg]
      show some ((List.set ρ' i none).set i (some (.val (natI y)))) = _
      rw [set_set]
    · subst e4 e5
      have er : ∀ q : Nat → Bool, (List.range (done ++ [y]).length).filter q = (List.range y).filter q ++ if q y then [y] else [] := fun q => by
        rw [List.length_append, List.length_singleton, ← hy, List.range_succ, List.filter_append]
        congr 1
        by_cases c : q y = true
        · simp [c]
        · simp [c]
      refine ⟨fun hb => (step y hy2).mono fun r ρ3 ⟨v, ρ4, e6, e7, e8⟩ => ⟨v, ρ4, e6, ?_, some (.val (natI y)), e8⟩, fun hb => ⟨?_, some (.val (natI y)), rfl⟩⟩
      · rw [er, if_pos hb, List.map_append, e7]
        rfl
      · rw [er, if_neg (by rw [hb]; decide)]
        simp
  · rintro acc _ ⟨rfl, u, rfl⟩
    have eb : back ρ' [i] (List.set ρ' i u) = ρ' := by
      show (List.set ρ' i u).set i (get ρ' i) = ρ'
      rw [set_set]
      unfold get
      rw [List.getElem?_eq_getElem hi]
      simp
    rw [eb]
    rw [List.length_range] at *
    exact q
theorem wp_for2N {a b : M} {m : MG} {s : SM} {ρ : Env} {QS : Fl → Env → Prop} (P : Nat → Env → Prop) (lo n : Nat)
    (h : Wp a ρ fun x ρ1 => look x ρ1 = some (.pv (.int (lo : Int))) ∧ Wp b ρ1 fun y ρ2 => look y ρ2 = some (.pv (.int ((lo + n : Nat) : Int))) ∧ lo + n ≤ line ∧ P 0 ρ2) (step : ∀ k ρ, k < n → P k ρ → PutQ m (.val (.int ((lo + k : Nat) : Int))) ρ fun ρ1 => Wp s ρ1 (TurnQ (P (k + 1)) QS)) (hd : ∀ ρ, P n ρ → QS .nx ρ) : Wp (sFor (iRng2 a b) m s) ρ QS := by
  have hln : (line : Nat) = 16777216 := rfl
  refine wp_for (wp_rng2 (h.mono fun x ρ1 ⟨e, h2⟩ => ⟨lo, e, h2.mono fun y ρ2 ⟨e2, hz, h0⟩ => ⟨_, e2, ⟨by omega, by omega, by omega, by omega, by omega⟩, ?_⟩⟩))
  rw [show (((lo + n : Nat) : Int) - (lo : Int)).toNat = n by omega]
  refine wp_loopK P h0 (fun k hk ρ p => ?_) (fun ρ p => hd ρ ?_)
  · simp at hk
    have := step k ρ hk p
    rw [show ((lo + k : Nat) : Int) = (lo : Int) + (k : Int) by omega] at this
    simpa using this
  · simpa using p
section
variable {Q : R → List Ob → Prop} {C : Nat → Nat → Rat} {P : Nat → Nat → Int} {d pl : Nat}
theorem fours_len (s : List Nat) : (foursF s).length ≤ 3 := by
  unfold foursF
  split <;> simp
theorem of_fours {s : List Nat} (hl : s.length = 4) (q : Q (.new (.lst ((foursF s).map tupN))) []) : Ret d_law_fours [.val (tupN s)] Q := by
  match s, hl with
  | [a, b, c, e], _ =>
    refine ret_mkR (by repeat constructor) ?_
    unfold b_law_fours
    walk_at "rl"
    refine ⟨_, rfl, ?_⟩
    walk_at "rl"
    exact q
theorem right_loop {QS : Fl → Env → Prop} {v4 v8 v14 v15 : Option Sl} {acc : List (List Nat × List Nat)} {l s : List Nat} (hl : s.length = 4) (ha : acc.length ≤ 100000)
    (q : QS .nx [some (.val (partsV P)), some (.val (.int (d : Int))), some (.val (natI pl)), some (.own (.lst ((acc ++ (foursF s).map fun r => (l, r)).map twV))), v4, none, some (.val (tupN l)), none, v8, none, none, none, none, none, v14, v15, some (.val (tupN s)), none, none]) :
    Wp (sFor (iSeq (mCall d_law_fours [.v (mVar 16)])) (gName 7) l3_law_best_of_eight_k64) [some (.val (partsV P)), some (.val (.int (d : Int))), some (.val (natI pl)), some (.own (.lst ((acc).map twV))), v4, none, some (.val (tupN l)), none, v8, none, none, none, none, none, v14, v15, some (.val (tupN s)), none, none] QS := by
  have hln : (line : Nat) = 16777216 := rfl
  refine wp_for (wp_seqI ?_)
  walk_at "rl"
  refine of_fours hl ?_
  walk_at "rl"
  have hf := fours_len s
  generalize foursF s = F at *
  refine wp_loopK (fun i ρ => ρ = [some (.val (partsV P)), some (.val (.int (d : Int))), some (.val (natI pl)), some (.own (.lst ((acc ++ (F.take i).map fun r => (l, r)).map twV))), v4, none, some (.val (tupN l)), none, v8, none, none, none, none, none, v14, v15, some (.val (tupN s)), none, none]) (by rw [List.take_zero, List.map_nil, List.append_nil]) ?_ ?_
  · rintro i hi _ rfl
    rw [List.length_map] at hi
    have e : (F.map tupN)[i]'(by rw [List.length_map]; exact hi) = tupN F[i] := by simp
    rw [e, List.take_succ_eq_append_getElem hi, List.map_append (f := fun r => (l, r)), List.map_singleton, ← List.append_assoc]
    generalize F[i] = r at *
    have hT : (F.take i).length ≤ 3 := by rw [List.length_take]; omega
    generalize F.take i = T at *
    unfold l3_law_best_of_eight_k64
    walk_at "rl"
    apply appq (xs := (acc ++ T.map fun r => (l, r)).map twV) rfl (by rw [List.length_map, List.length_append, List.length_map]; omega)
    walk_at "set"
    walk_at "rl"
    rw [List.map_append (l₁ := acc ++ _), List.map_singleton]
  · rintro _ rfl
    rw [List.length_map, List.take_length]
    exact q
theorem left_loop {QS : Fl → Env → Prop} {v4 v8 v14 : Option Sl} {acc : List (List Nat × List Nat)} {f : List Nat} (hl : f.length = 4) (hs : (rest8 f).length = 4) (ha : acc.length ≤ 90000)
    (q : QS .nx [some (.val (partsV P)), some (.val (.int (d : Int))), some (.val (natI pl)), some (.own (.lst ((acc ++ twins1 f).map twV))), v4, none, none, none, v8, none, none, none, none, none, v14, some (.val (tupN f)), some (.val (tupN (rest8 f))), none, none]) :
    Wp (sFor (iSeq (mCall d_law_fours [.v (mVar 15)])) (gName 6) l4_law_best_of_eight_k64) [some (.val (partsV P)), some (.val (.int (d : Int))), some (.val (natI pl)), some (.own (.lst ((acc).map twV))), v4, none, none, none, v8, none, none, none, none, none, v14, some (.val (tupN f)), some (.val (tupN (rest8 f))), none, none] QS := by
  have hln : (line : Nat) = 16777216 := rfl
  refine wp_for (wp_seqI ?_)
  walk_at "rl"
  refine of_fours hl ?_
  walk_at "rl"
  have hf := fours_len f
  have hr := fours_len (rest8 f)
  unfold twins1 at q
  generalize foursF f = F at *
  refine wp_loopK (fun i ρ => ρ = [some (.val (partsV P)), some (.val (.int (d : Int))), some (.val (natI pl)), some (.own (.lst ((acc ++ (F.take i).flatMap fun l => (foursF (rest8 f)).map fun r => (l, r)).map twV))), v4, none, none, none, v8, none, none, none, none, none, v14, some (.val (tupN f)), some (.val (tupN (rest8 f))), none, none]) (by rw [List.take_zero, List.flatMap_nil, List.append_nil]) ?_ ?_
  · rintro i hi _ rfl
    rw [List.length_map] at hi
    have e : (F.map tupN)[i]'(by rw [List.length_map]; exact hi) = tupN F[i] := by simp
    rw [e, List.take_succ_eq_append_getElem hi, List.flatMap_append, List.flatMap_cons, List.flatMap_nil, List.append_nil, ← List.append_assoc]
    generalize F[i] = l at *
    have hT : (F.take i).length ≤ 3 := by rw [List.length_take]; omega
    generalize F.take i = T at *
    have hc : ((T.flatMap fun l => (foursF (rest8 f)).map fun r => (l, r))).length ≤ 9 := by
      rw [List.length_flatMap]
      have : (T.map fun l => ((foursF (rest8 f)).map fun r => (l, r)).length) = T.map fun _ => (foursF (rest8 f)).length := List.map_congr_left fun _ _ => by rw [List.length_map]
      rw [this, List.map_const', List.sum_replicate_nat]
      exact Nat.mul_le_mul hT hr
    unfold l4_law_best_of_eight_k64
    walk_at "rl"
    refine right_loop hs (by rw [List.length_append]; omega) ?_
    walk_at "rl"
    try rfl
  · rintro _ rfl
    rw [List.length_map, List.take_length]
    exact q
theorem twins1_len (f : List Nat) : (twins1 f).length ≤ 9 := by
  unfold twins1
  have hf := fours_len f
  have hr := fours_len (rest8 f)
  rw [List.length_flatMap]
  have : ((foursF f).map fun l => ((foursF (rest8 f)).map fun r => (l, r)).length) = (foursF f).map fun _ => (foursF (rest8 f)).length := List.map_congr_left fun _ _ => by rw [List.length_map]
  rw [this, List.map_const', List.sum_replicate_nat]
  exact Nat.mul_le_mul hf hr
theorem rest_len (one : Nat) (h1 : one < 8) (other : Nat) (h2 : other < 8) (more : Nat) (h3 : more < 8) (h4 : 0 < one) (h5 : one < other) (h6 : other < more) : (rest8 [0, one, other, more]).length = 4 := by
  have h : ∀ one, one < 8 → ∀ other, other < 8 → ∀ more, more < 8 → (0 < one ∧ one < other ∧ other < more) → (rest8 [0, one, other, more]).length = 4 := by decide +kernel
  exact h one h1 other h2 more h3 ⟨h4, h5, h6⟩
theorem flat_le {α β : Type} {f : α → List β} {c : Nat} : ∀ {l : List α}, (∀ x ∈ l, (f x).length ≤ c) → (l.flatMap f).length ≤ l.length * c
  | [], _ => by simp
  | x :: l, h => by
    rw [List.flatMap_cons, List.length_append, List.length_cons, Nat.add_mul, Nat.one_mul]
    have h1 := h x (List.mem_cons_self ..)
    have h2 := flat_le (f := f) (c := c) (l := l) fun y hy => h y (List.mem_cons_of_mem _ hy)
    omega
def moreT (one other : Nat) (m : Nat) : List (List Nat × List Nat) := (List.range' (other + 1) m).flatMap fun more => twins1 [0, one, other, more]
def otherT (one : Nat) (m : Nat) : List (List Nat × List Nat) := (List.range' (one + 1) m).flatMap fun other => moreT one other (8 - (other + 1))
def oneT (m : Nat) : List (List Nat × List Nat) := (List.range' 1 m).flatMap fun one => otherT one (8 - (one + 1))
theorem moreT_len {one other m : Nat} : (moreT one other m).length ≤ m * 9 := by
  have := flat_le (f := fun more => twins1 [0, one, other, more]) (c := 9) (l := List.range' (other + 1) m) fun x _ => twins1_len _
  rwa [List.length_range'] at this
theorem otherT_len {one m : Nat} : (otherT one m).length ≤ m * 72 := by
  have := flat_le (f := fun other => moreT one other (8 - (other + 1))) (c := 72) (l := List.range' (one + 1) m) fun x _ => Nat.le_trans moreT_len (by omega)
  rwa [List.length_range'] at this
theorem oneT_len {m : Nat} : (oneT m).length ≤ m * 576 := by
  have := flat_le (f := fun one => otherT one (8 - (one + 1))) (c := 576) (l := List.range' 1 m) fun x _ => Nat.le_trans otherT_len (by omega)
  rwa [List.length_range'] at this
theorem moreT_succ {one other m : Nat} : moreT one other (m + 1) = moreT one other m ++ twins1 [0, one, other, other + 1 + m] := by
  unfold moreT
  rw [List.range'_1_concat, List.flatMap_append, List.flatMap_cons, List.flatMap_nil, List.append_nil]
theorem otherT_succ {one m : Nat} : otherT one (m + 1) = otherT one m ++ moreT one (one + 1 + m) (8 - (one + 1 + m + 1)) := by
  unfold otherT
  rw [List.range'_1_concat, List.flatMap_append, List.flatMap_cons, List.flatMap_nil, List.append_nil]
theorem oneT_succ {m : Nat} : oneT (m + 1) = oneT m ++ otherT (1 + m) (8 - (1 + m + 1)) := by
  unfold oneT
  rw [List.range'_1_concat, List.flatMap_append, List.flatMap_cons, List.flatMap_nil, List.append_nil]
theorem oneT_all : oneT 7 = twinsF := by
  unfold oneT twinsF firstsF
  rw [List.flatMap_assoc]
  congr 1
  funext one
  unfold otherT
  rw [List.flatMap_assoc]
  congr 1
  funext other
  unfold moreT moreF
  rw [List.flatMap_map]
theorem more_loop {QS : Fl → Env → Prop} {one other : Nat} {acc : List (List Nat × List Nat)} (h1 : 0 < one) (h2 : one < other) (h3 : other < 8) (ha : acc.length ≤ 80000)
    (q : QS .nx [some (.val (partsV P)), some (.val (.int (d : Int))), some (.val (natI pl)), some (.own (.lst ((acc ++ moreT one other (8 - (other + 1))).map twV))), some (.val (.int (one : Int))), none, none, none, some (.val (.int (other : Int))), none, none, none, none, none, none, none, none, none, none]) :
    Wp (sFor (Py.iRng2 (mOp fAdd (mVar 8) (mC (.int 1))) (mC (.int 8))) (gName 14) l5_law_best_of_eight_k64) [some (.val (partsV P)), some (.val (.int (d : Int))), some (.val (natI pl)), some (.own (.lst ((acc).map twV))), some (.val (.int (one : Int))), none, none, none, some (.val (.int (other : Int))), none, none, none, none, none, none, none, none, none, none] QS := by
  have hln : (line : Nat) = 16777216 := rfl
  refine wp_for2N (fun i ρ => ρ = [some (.val (partsV P)), some (.val (.int (d : Int))), some (.val (natI pl)), some (.own (.lst ((acc ++ moreT one other i).map twV))), some (.val (.int (one : Int))), none, none, none, some (.val (.int (other : Int))), none, none, none, none, none, none, none, none, none, none]) (other + 1) (8 - (other + 1)) ?_ ?_ ?_
  · walk_at "rl"
    refine ⟨rfl, ?_⟩
    walk_at "rl"
    refine ⟨by rw [show other + 1 + (8 - (other + 1)) = 8 by omega]; rfl, by omega, ?_⟩
    unfold moreT
    rw [List.range'_zero, List.flatMap_nil, List.append_nil]
  · rintro i _ hi rfl
    rw [moreT_succ, ← List.append_assoc]
    have hc := moreT_len (one := one) (other := other) (m := i)
    have hr := rest_len one (by omega) other h3 (other + 1 + i) (by omega) h1 h2 (by omega)
    generalize moreT one other i = M at *
    generalize other + 1 + i = more at *
    unfold l5_law_best_of_eight_k64
    walk_at "rl"
    refine wp_lcNTK (ρ1 := [some (.val (partsV P)), some (.val (.int (d : Int))), some (.val (natI pl)), some (.own (.lst ((acc ++ M).map twV))), some (.val (.int (one : Int))), none, none, none, some (.val (.int (other : Int))), none, none, none, none, none, some (.val (.int (more : Int))), some (.val (tupN [0, one, other, more])), none, none, none]) 8 (fun m => !decide (m ∈ [0, one, other, more])) natI (by simp) (by omega) ?_ ?_ ?_ ?_
    · walk_at "rl"
      exact ⟨rfl, rfl⟩
    · intro x hx
      dsimp only [set_s, set_z]
      unfold t2_law_best_of_eight_k64
      walk_at "rl"
      refine ⟨congrArg not (decide_eq_decide.mpr ?_), rfl⟩
      simp only [List.mem_cons, List.not_mem_nil, or_false]
      omega
    · intro x hx
      dsimp only [set_s, set_z]
      unfold e1_law_best_of_eight_k64
      walk_at "rl"
      first | rfl | exact ⟨rfl, rfl⟩
    walk_at "rl"
    refine left_loop (f := [0, one, other, more]) rfl hr (by rw [List.length_append]; omega) ?_
    walk_at "rl"
    try rfl
  · rintro _ rfl
    exact q
theorem other_loop {QS : Fl → Env → Prop} {one : Nat} {acc : List (List Nat × List Nat)} (h1 : 0 < one) (h2 : one < 8) (ha : acc.length ≤ 70000)
    (q : QS .nx [some (.val (partsV P)), some (.val (.int (d : Int))), some (.val (natI pl)), some (.own (.lst ((acc ++ otherT one (8 - (one + 1))).map twV))), some (.val (.int (one : Int))), none, none, none, none, none, none, none, none, none, none, none, none, none, none]) :
    Wp (sFor (Py.iRng2 (mOp fAdd (mVar 4) (mC (.int 1))) (mC (.int 8))) (gName 8) l6_law_best_of_eight_k64) [some (.val (partsV P)), some (.val (.int (d : Int))), some (.val (natI pl)), some (.own (.lst ((acc).map twV))), some (.val (.int (one : Int))), none, none, none, none, none, none, none, none, none, none, none, none, none, none] QS := by
  have hln : (line : Nat) = 16777216 := rfl
  refine wp_for2N (fun i ρ => ρ = [some (.val (partsV P)), some (.val (.int (d : Int))), some (.val (natI pl)), some (.own (.lst ((acc ++ otherT one i).map twV))), some (.val (.int (one : Int))), none, none, none, none, none, none, none, none, none, none, none, none, none, none]) (one + 1) (8 - (one + 1)) ?_ ?_ ?_
  · walk_at "rl"
    refine ⟨rfl, ?_⟩
    walk_at "rl"
    refine ⟨by rw [show one + 1 + (8 - (one + 1)) = 8 by omega]; rfl, by omega, ?_⟩
    unfold otherT
    rw [List.range'_zero, List.flatMap_nil, List.append_nil]
  · rintro i _ hi rfl
    rw [otherT_succ, ← List.append_assoc]
    have hc := otherT_len (one := one) (m := i)
    generalize otherT one i = M at *
    have ho : one < one + 1 + i ∧ one + 1 + i < 8 := by omega
    generalize one + 1 + i = other at *
    unfold l6_law_best_of_eight_k64
    walk_at "rl"
    refine more_loop h1 ho.1 ho.2 (by rw [List.length_append]; omega) ?_
    walk_at "rl"
    try rfl
  · rintro _ rfl
    exact q
theorem one_loop {QS : Fl → Env → Prop} (q : QS .nx [some (.val (partsV P)), some (.val (.int (d : Int))), some (.val (natI pl)), some (.own (.lst ((twinsF).map twV))), none, none, none, none, none, none, none, none, none, none, none, none, none, none, none]) :
    Wp (sFor (Py.iRng2 (mC (.int 1)) (mC (.int 8))) (gName 4) l7_law_best_of_eight_k64) [some (.val (partsV P)), some (.val (.int (d : Int))), some (.val (natI pl)), some (.own (.lst (([]).map twV))), none, none, none, none, none, none, none, none, none, none, none, none, none, none, none] QS := by
  have hln : (line : Nat) = 16777216 := rfl
  refine wp_for2N (fun i ρ => ρ = [some (.val (partsV P)), some (.val (.int (d : Int))), some (.val (natI pl)), some (.own (.lst ((oneT i).map twV))), none, none, none, none, none, none, none, none, none, none, none, none, none, none, none]) 1 7 ?_ ?_ ?_
  · walk_at "rl"
    refine ⟨rfl, ?_⟩
    walk_at "rl"
    exact ⟨rfl, by omega, rfl⟩
  · rintro i _ hi rfl
    rw [oneT_succ]
    have hc := oneT_len (m := i)
    generalize oneT i = M at *
    have ho : 0 < 1 + i ∧ 1 + i < 8 := by omega
    generalize 1 + i = one at *
    unfold l7_law_best_of_eight_k64
    walk_at "rl"
    refine other_loop ho.1 ho.2 (by omega) ?_
    walk_at "rl"
    try rfl
  · rintro _ rfl
    rw [oneT_all]
    exact q
end
end Py
namespace Py
open PySem D
local macro_rules
  | `(tactic| walk_at "w") => `(tactic| with_reducible first
    | refine seq_nx ?_ | refine seq_rt ?_ | refine seq_bk ?_ | refine seq_ct ?_ | refine wp_seq ?_ | refine wp_asg ?_ | refine wp_next ?_ | refine wp_ret ?_ | refine wp_retN ?_ | refine wp_brk ?_ | refine wp_cont ?_ | refine wp_expr ?_ | refine wp_op ?_ | refine wp_un ?_ | refine wp_c ?_
    | refine unB ?_ | refine wp_truB ?_ | refine wp_and ?_ | refine wp_or ?_ | refine wp_not ?_ | refine wp_ifE ?_ | refine wp_tup ?_ | refine wp_lst ?_ | refine wp_lcons ?_ | refine wp_lnil ?_ | refine frzV ?_ | refine frzN ?_ | refine wp_frz ?_ | refine wp_sl ?_ | refine wp_onone ?_ | refine wp_osome ?_
    | refine wp_anil ?_ | refine wp_av ?_ | refine wp_andV ?_ | refine wp_orV ?_ | refine wp_notV ?_ | refine wp_fgtR ?_ | refine turn_nx ?_ | refine turn_rt ?_ | refine turn_bk ?_ | refine turn_ct ?_ | refine fgt_rt ?_ | refine wp_par ?_ | refine wp_chain ?_ | refine wp_seqI ?_)
local macro_rules
  | `(tactic| walk_at "put") => `(tactic| focus ((repeat apply PutR.s); first | exact PutR.z rfl | exact PutR.z (by assumption)))
local macro_rules
  | `(tactic| walk_at "set") => `(tactic| focus ((repeat apply SetR.s); first | exact SetR.o | exact SetR.r))
local macro_rules
  | `(tactic| walk_at "fgt") => `(tactic| focus (repeat first | exact FgtsR.nil | exact FgtR.k | exact FgtR.z rfl | exact FgtR.z (by assumption) | apply FgtR.s | apply FgtsR.cons))
local macro_rules
  | `(tactic| walk_at "x") => `(tactic| first
    | ((with_reducible apply wp_varV); (focus exact rfl)) | ((with_reducible apply wp_varO); (focus exact rfl)) | ((with_reducible apply wp_varR); (focus exact rfl))
    | ((with_reducible apply opq); (focus exact rfl); (focus exact rfl); (focus (first | exact ev_eqI | exact ev_neI | exact ev_ltI | exact ev_leI | exact ev_gtI | exact ev_geI | exact ev_in2 | exact ev_in2n | exact ev_in4n | exact ev_isT | exact ev_isF | exact ev_isnT | exact ev_isnF | exact ev_eqQ0 | exact ev_eqQ1 | exact ev_eqQ | exact ev_neQ | exact ev_strT | exact ev_strF n1 | exact ev_strF n2 | exact ev_strF n3 | exact ev_strF n4 | exact ev_strF n5 | exact ev_strF n6 | exact rfl)))
    | ((with_reducible apply unq); (focus exact rfl); (focus exact rfl))
    | ((with_reducible first | apply putqV | apply putqN); walk_at "put")
    | ((with_reducible apply putqB); (focus exact rfl); (focus exact rfl); walk_at "put"; walk_at "put")
    | ((with_reducible apply putq2); walk_at "put"; walk_at "put")
    | ((with_reducible apply parq); walk_at "put"; walk_at "put")
    | ((with_reducible apply wp_callR); (focus (repeat first | exact RefsR.nil | apply RefsR.v | apply RefsR.r)); (focus decide))
    | ((with_reducible apply wp_ar); (focus exact rfl))
    | ((with_reducible apply fin_rt); (focus exact rfl); (focus exact rfl))
    | ((with_reducible apply fin_nx); (focus exact rfl))
    | ((with_reducible apply wp_appendR); (focus exact rfl))
    | (with_reducible refine ⟨_, rfl, ?_⟩) | (with_reducible refine ⟨_, .inl rfl, ?_⟩) | (with_reducible refine ⟨_, .inr (.inl rfl), ?_⟩) | (with_reducible refine ⟨_, .inr (.inr rfl), ?_⟩)
    | (with_reducible apply callq0) | ((with_reducible apply frzB); (focus exact rfl); (focus exact rfl); walk_at "put")
    | ((with_reducible apply callq1); walk_at "set")
    | ((with_reducible apply callq2); walk_at "set"; walk_at "set")
    | ((with_reducible first | apply fgt_nx | apply fgt_bk | apply fgt_ct); walk_at "fgt")
    | ((with_reducible apply brT); (focus exact rfl)) | ((with_reducible apply brF); (focus exact rfl)))
local macro_rules
  | `(tactic| walk_at "r") => `(tactic| repeat first | walk_at "w" | walk_at "x")
local macro_rules
  | `(tactic| walk_at "ri") => `(tactic| repeat first | walk_at "w" | walk_at "x" | (with_reducible refine wp_if ?_))
local macro_rules
  | `(tactic| walk_at "app") => `(tactic| ((with_reducible apply appq); (focus exact rfl); (focus ((try simp only [List.length_map, List.length_nil, List.length_cons, List.length_append]); unfold line; omega)); walk_at "set"))
local macro_rules
  | `(tactic| walk_at "mul") => `(tactic| ((refine opq rfl rfl (ev_mul ?_) ?_); (focus (apply mulT <;> omega))))
local macro_rules
  | `(tactic| walk_at "rm") => `(tactic| repeat first | walk_at "w" | walk_at "x" | walk_at "mul")
local macro_rules
  | `(tactic| walk_at "len") => `(tactic| (refine And.intro ?_ ?_; (focus (simp [line]; done))))
local macro_rules
  | `(tactic| walk_at "rl") => `(tactic| repeat first | walk_at "w" | walk_at "x" | walk_at "len")
local macro_rules
  | `(tactic| walk_at "ril") => `(tactic| repeat first | walk_at "w" | walk_at "x" | walk_at "len" | (with_reducible refine wp_if ?_))
/-! QLo: the best of eight, walked. -/
theorem tup_ints (s : List Nat) : ints? (s.map natI) = some (castL s) := by
  have e : s.map natI = (castL s).map PyData.int := by unfold castL; rw [List.map_map]; rfl
  rw [e]
  exact ints_map (castL s)
theorem twins_map (L : List (List Nat × List Nat)) : (L.map twV).mapM twinI? = some (L.map castT) := by
  induction L with
  | nil => rfl
  | cons p L ih =>
    have h : twinI? (twV p) = some (castT p) := by
      show (ints? (p.1.map natI)).bind (fun ms => (ints? (p.2.map natI)).map fun ns => (ms, ns)) = _
      rw [tup_ints, tup_ints]
      rfl
    simp [List.mapM_cons, h, ih]
theorem ev_sortR : fSortedR (.ob (.lst (twinsF.map twV))) = some (.new (.lst (TW8.map twV))) := by
  unfold fSortedR
  simp only [Ct.lst?, Option.bind_some, twins_map, Option.map_some, TW8_sort]
  rw [List.map_map]
  have : TW8.map (twinV ∘ castT) = TW8.map twV := List.map_congr_left fun p _ => by
    show PyData.tuple [tupV (castL p.1), tupV (castL p.2)] = .tuple [tupN p.1, tupN p.2]
    rw [tupN_V, tupN_V]
  rw [this]
theorem TW8_ne : TW8 ≠ [] := fun h => by
  have h1 : twinsF.length = 315 := by decide +kernel
  have h2 := (isG_perm (le := lexT) twinsF).length_eq
  rw [show isG lexT twinsF = TW8 from rfl, h, h1] at h2
  cases h2
section
variable {Q : R → List Ob → Prop} {C : Nat → Nat → Rat} {P : Nat → Nat → Int} {d pl : Nat}
abbrev fE (C : Nat → Nat → Rat) (pl : Nat) (y : List Nat × List Nat) : Rat := fW C 3 pl (y.1 ++ y.2)
noncomputable def tailE : SM :=
    (sSeq (sAsg (mCall d_law_four_chances [.v (mVar 0), .v (mVar 10)]) (Py.gName 11))
    (sSeq (sAsg (mUn fSum (mLc (iSeq (mFrz (mVar 10))) (Py.gName 17) [17] tYes e8_law_best_of_eight_k64)) (Py.gName 12))
    (sSeq (sAsg (mOp fMul (mOp fDget (mCall d_law_four_chances [.v (mVar 0), .v (mVar 9)]) (mVar 2)) (mVar 12)) (Py.gName 13))
    (sIf (mOr (mB (mOp (fIs false) (mVar 5) (mC .none))) (mB (mOp fGt (mVar 13) (mOp fIx (mVar 5) (mC (.int 0)))))) (sAsg (mTup (lCons (mVar 13) (lCons (mOp fAdd (mVar 6) (mVar 7)) lNil))) (Py.gName 5)) sNext))))
theorem l9_eq : l9_law_best_of_eight_k64 = (sFgt [6, 7, 9, 10, 11, 12, 13] (sSeq (sAsg (mVar 6) (Py.gName 9))
    (sSeq (sAsg (mVar 7) (Py.gName 10))
    (sSeq (sIf (mB (mOp (fIn false) (mVar 2) (mVar 7))) (sSeq (sAsg (mVar 7) (Py.gName 9))
    (sAsg (mVar 6) (Py.gName 10))) sNext) tailE)))) := rfl
theorem tail_eight (hP : Prt d P C) (hpl : pl < 8) {F : List (List Nat × List Nat)} {y : List Nat × List Nat} {own riv : List Nat} {v : PV} {bo : Option (List Nat × List Nat)} {QS : Fl → Env → Prop}
    (ho : own.length = 4) (hr : riv.length = 4) (hos : ∀ p ∈ own, p < 8) (hrs : ∀ p ∈ riv, p < 8) (hon : own.Nodup) (hrn : riv.Nodup) (hpo : pl ∈ own) (y1 : y.1.length = 4) (y2 : y.2.length = 4) (ys : ∀ p ∈ y.1 ++ y.2, p < 8)
    (et : topI P pl y = lkI (fourL P own) pl * metI P pl riv)
    (g1 : bo = none → v = .none) (g2 : ∀ z, bo = some z → (topI P pl z).natAbs < 2 ^ 27 ∧ v = .tuple [.int (topI P pl z), tupN (z.1 ++ z.2)] ∧ (topI P pl z < topI P pl y ↔ fE C pl z < fE C pl y))
    (q : ∀ v', (∀ z, stepB (fE C pl) bo y = some z → v' = .tuple [.int (topI P pl z), tupN (z.1 ++ z.2)]) → ∀ u11 u12 u13, isRef u11 = false → isRef u12 = false → isRef u13 = false → QS .nx [some (.val (partsV P)), some (.val (.int (d : Int))), some (.val (natI pl)), some (.own (.lst ((F).map twV))), none, some (.val v'), some (.val (tupN y.1)), some (.val (tupN y.2)), none, some (.val (tupN own)), some (.val (tupN riv)), u11, u12, u13, none, none, none, none, none]) :
    Wp tailE [some (.val (partsV P)), some (.val (.int (d : Int))), some (.val (natI pl)), some (.own (.lst ((F).map twV))), none, some (.val v), some (.val (tupN y.1)), some (.val (tupN y.2)), none, some (.val (tupN own)), some (.val (tupN riv)), none, none, none, none, none, none, none, none] QS := by
  have hln : (line : Nat) = 16777216 := rfl
  unfold tailE
  walk_at "rl"
  refine of_four hP hr hrn hrs ?_
  walk_at "rl"
  have eg : ∀ {s : List Nat} {x : Nat}, s.length = 4 → x ∈ s → fDget (.ob (.dct (kvI (fourL P s)))) (.pv (natI x)) = some (.val (.int (lkI (fourL P s) x))) := fun {s x} hs h => by
    show (dGet (kvI (fourL P s)) (.inl (x : Int))).map R.val = _
    rw [get_kvI (by rw [four_fst hs]; exact h)]
    rfl
  refine wp_lcGK (ρ1 := [some (.val (partsV P)), some (.val (.int (d : Int))), some (.val (natI pl)), some (.own (.lst ((F).map twV))), none, some (.val v), some (.val (tupN y.1)), some (.val (tupN y.2)), none, some (.val (tupN own)), some (.val (tupN riv)), some (.own (.dct (kvI (fourL P riv)))), none, none, none, none, none, none, none]) natI riv (fun _ => true) (fun x => .int (lkI (fourL P riv) x * P pl x)) (by simp) (by omega) ?_ ?_ ?_ ?_
  · walk_at "rl"
    first | rfl | exact ⟨.inr (.inl rfl), rfl⟩
  · intro x hx
    exact ⟨_, _, rfl, rfl, rfl⟩
  · intro x hx
    dsimp only [set_s, set_z]
    unfold e8_law_best_of_eight_k64
    walk_at "rl"
    refine opq rfl rfl (eg hr hx) ?_
    walk_at "rl"
    refine opq rfl rfl (ix_row hpl) ?_
    walk_at "rl"
    refine opq rfl rfl (ix_cell (hrs x hx)) ?_
    walk_at "rl"
    refine opq rfl rfl (ev_mul (mulOk_of _ _ (lkI_small hP hr hrs) (hP.small pl hpl x (hrs x hx)) (by omega))) ?_
    walk_at "rl"
    first | rfl | exact ⟨rfl, rfl⟩
  rw [List.filter_eq_self.mpr (show ∀ a ∈ riv, (fun _ => true) a = true from fun _ _ => rfl)]
  have es : (riv.map fun x => PyData.int (lkI (fourL P riv) x * P pl x)) = (riv.map fun x => lkI (fourL P riv) x * P pl x).map PyData.int := by rw [List.map_map]; rfl
  rw [es]
  walk_at "rl"
  refine unq rfl ev_sum ?_
  rw [show (riv.map fun x => lkI (fourL P riv) x * P pl x).sum = metI P pl riv from rfl]
  walk_at "rl"
  refine of_four hP ho hon hos ?_
  walk_at "rl"
  refine opq rfl rfl (eg ho hpo) ?_
  walk_at "rl"
  refine opq rfl rfl (ev_mul (mulOk_of _ _ (lkI_small hP ho hos) (met_small hP hpl hr hrs) (by omega))) ?_
  rw [← et]
  walk_at "rl"
  have el : fAdd (.pv (tupN y.1)) (.pv (tupN y.2)) = some (.val (tupN (y.1 ++ y.2))) := by
    rw [tupN, tupN, ev_addT (by rw [List.length_map, List.length_map]; omega), tupN, List.map_append]
  cases eb : bo with
  | none =>
    obtain rfl := g1 eb
    walk_at "ril"
    refine opq rfl rfl el ?_
    walk_at "ril"
    refine q _ (fun z e => ?_) _ _ _ rfl rfl rfl
    rw [eb] at e
    cases e
    rfl
  | some z =>
    obtain ⟨c1, rfl, c2⟩ := g2 z eb
    walk_at "ril"
    refine ⟨fun h => ?_, fun h => ?_⟩
    · walk_at "ril"
      refine opq rfl rfl el ?_
      walk_at "ril"
      refine q _ (fun w e => ?_) _ _ _ rfl rfl rfl
      rw [eb, stepB, if_pos (c2.mp (of_decide_eq_true h))] at e
      cases e
      rfl
    · walk_at "ril"
      refine q _ (fun w e => ?_) _ _ _ rfl rfl rfl
      rw [eb, stepB, if_neg (fun k => of_decide_eq_false h (c2.mpr k))] at e
      cases e
      rfl
theorem of_best_eight (hP : Prt d P C) (hpl : pl < 8) (q : Q (.val (bstV (fW C 3 pl) (bestO (fW C 3 pl) (SL 3)))) []) : Ret d_law_best_of_eight_k64 [.val (partsV P), .val (.int (d : Int)), .val (natI pl)] Q := by
  have hln : (line : Nat) = 16777216 := rfl
  have hd1 := hP.pos
  have hd6 := hP.le
  have h3 : (d : Int).natAbs < 2 ^ 3 := by omega
  have hcmp : ∀ y ∈ TW8, ∀ z ∈ TW8, (topI P pl z < topI P pl y ↔ fE C pl z < fE C pl y) := fun y hy z hz => by
    obtain ⟨a1, a2, a3⟩ := TW8_mem y hy
    obtain ⟨b1, b2, b3⟩ := TW8_mem z hz
    have e1 := top_eq hP hpl a1 a2 a3
    have e2 := top_eq hP hpl b1 b2 b3
    have hD : (0 : Rat) < (((d * d * d * d * d * d * d : Nat) : Int) : Rat) := by
      have : 0 < d * d * d * d * d * d * d := by
        repeat first | exact hd1 | refine Nat.mul_pos ?_ hd1
      exact_mod_cast this
    rw [← Rat.intCast_lt_intCast, e1, e2]
    generalize (((d * d * d * d * d * d * d : Nat) : Int) : Rat) = D at *
    constructor
    · intro h
      refine Rat.not_le.mp fun w => ?_
      have := Rat.mul_nonneg (Rat.le_of_lt hD) (show 0 ≤ fE C pl z - fE C pl y by grind)
      unfold fE at this
      grind
    · intro h
      have := Rat.mul_pos hD (show 0 < fE C pl y - fE C pl z by grind)
      unfold fE at this
      grind
  refine ret_mkR (by repeat constructor) ?_
  unfold b_law_best_of_eight_k64
  walk_at "rl"
  refine one_loop ?_
  have hS := ev_sortR
  generalize twinsF = F at hS ⊢
  walk_at "rl"
  refine wp_for (wp_seqI ?_)
  walk_at "rl"
  refine unq rfl hS ?_
  walk_at "rl"
  have hmem := TW8_mem
  obtain ⟨b, hb⟩ := best_some (f := fE C pl) TW8_ne
  have hbm := bestO_mem hb
  have hq : bestO (fW C 3 pl) (SL 3) = some (b.1 ++ b.2) := by
    rw [sl3, show isG lexT twinsF = TW8 from rfl, best_cat]
    show Option.map _ (bestO (fE C pl) TW8) = _
    rw [hb]
    rfl
  rw [hq] at q
  refine wp_loopK (fun i ρ => ∃ v, (bestO (fE C pl) (TW8.take i) = none → v = PyData.none) ∧ (∀ z, bestO (fE C pl) (TW8.take i) = some z → v = .tuple [.int (topI P pl z), tupN (z.1 ++ z.2)]) ∧ ρ = [some (.val (partsV P)), some (.val (.int (d : Int))), some (.val (natI pl)), some (.own (.lst ((F).map twV))), none, some (.val v), none, none, none, none, none, none, none, none, none, none, none, none, none]) ⟨.none, fun _ => rfl, fun y e => (by rw [List.take_zero] at e; cases e), rfl⟩ ?_ ?_
  · rintro i hi _ ⟨v, g1, g2, rfl⟩
    rw [List.length_map] at hi
    have e : (TW8.map twV)[i]'(by rw [List.length_map]; exact hi) = twV TW8[i] := by simp
    have hy := List.getElem_mem hi
    rw [e, List.take_succ_eq_append_getElem hi, bestO_snoc]
    generalize TW8[i] = y at *
    have hT : ∀ z, bestO (fE C pl) (TW8.take i) = some z → z ∈ TW8 := fun z h => List.mem_of_mem_take (bestO_mem h)
    generalize bestO (fE C pl) (TW8.take i) = bo at *
    obtain ⟨a1, a2, a3⟩ := hmem y hy
    have hs : ∀ p ∈ y.1 ++ y.2, p < 8 := fun p h => List.mem_range.mp (a3.mem_iff.mp h)
    obtain ⟨n1, n2, n3⟩ := List.nodup_append.mp (a3.nodup_iff.mpr List.nodup_range)
    have hs1 : ∀ p ∈ y.1, p < 8 := fun p h => hs p (List.mem_append_left _ h)
    have hs2 : ∀ p ∈ y.2, p < 8 := fun p h => hs p (List.mem_append_right _ h)
    have hpm : pl ∈ y.1 ++ y.2 := a3.mem_iff.mpr (List.mem_range.mpr hpl)
    have G2 : ∀ z, bo = some z → (topI P pl z).natAbs < 2 ^ 27 ∧ v = .tuple [.int (topI P pl z), tupN (z.1 ++ z.2)] ∧ (topI P pl z < topI P pl y ↔ fE C pl z < fE C pl y) := fun z h => by
      obtain ⟨b1, b2, b3⟩ := hmem z (hT z h)
      exact ⟨top_small hP hpl b1 b2 fun p h => List.mem_range.mp (b3.mem_iff.mp h), g2 z h, hcmp y hy z (hT z h)⟩
    rw [l9_eq]
    walk_at "ril"
    refine opq rfl rfl (ev_inN (a := pl) (qs := y.2)) ?_
    walk_at "ril"
    refine ⟨fun h => ?_, fun h => ?_⟩
    · have c := of_decide_eq_true h
      walk_at "rl"
      refine tail_eight hP hpl (y := y) (own := y.2) (riv := y.1) a2 a1 hs2 hs1 n2 n1 c a1 a2 hs (by unfold topI; rw [if_pos c]) g1 G2 fun v' hv u1 u2 u3 w1 w2 w3 => ?_
      walk_at "rl"
      refine ⟨v', fun z => ?_, hv, rfl⟩
      exfalso
      revert z
      unfold stepB
      split
      · intro z; cases z
      · split <;> (intro z; cases z)
    · have c := of_decide_eq_false h
      walk_at "rl"
      refine tail_eight hP hpl (y := y) (own := y.1) (riv := y.2) a1 a2 hs1 hs2 n1 n2 ((List.mem_append.mp hpm).resolve_right c) a1 a2 hs (by unfold topI; rw [if_neg c]) g1 G2 fun v' hv u1 u2 u3 w1 w2 w3 => ?_
      walk_at "rl"
      refine ⟨v', fun z => ?_, hv, rfl⟩
      exfalso
      revert z
      unfold stepB
      split
      · intro z; cases z
      · split <;> (intro z; cases z)
  · rintro _ ⟨v, g1, g2, rfl⟩
    rw [List.length_map, List.take_length] at g2
    obtain rfl := g2 b hb
    obtain ⟨b1, b2, b3⟩ := hmem b hbm
    walk_at "rl"
    refine opq rfl rfl (ev_mul (mulOk_of 3 3 h3 h3 (by omega))) ?_
    walk_at "rl"
    have m2 := nlt_mul h3 h3
    refine opq rfl rfl (ev_mul (mulOk_of _ _ m2 h3 (by omega))) ?_
    walk_at "rl"
    have m3 := nlt_mul m2 h3
    refine opq rfl rfl (ev_mul (mulOk_of _ _ m3 h3 (by omega))) ?_
    walk_at "rl"
    have m4 := nlt_mul m3 h3
    refine opq rfl rfl (ev_mul (mulOk_of _ _ m4 h3 (by omega))) ?_
    walk_at "rl"
    have m5 := nlt_mul m4 h3
    refine opq rfl rfl (ev_mul (mulOk_of _ _ m5 h3 (by omega))) ?_
    walk_at "rl"
    have m6 := nlt_mul m5 h3
    refine opq rfl rfl (ev_mul (mulOk_of _ _ m6 h3 (by omega))) ?_
    walk_at "rl"
    have eD : (d : Int) * d * d * d * d * d * d = ((d * d * d * d * d * d * d : Nat) : Int) := by push_cast; rfl
    have hD : ((d * d * d * d * d * d * d : Nat) : Int) ≠ 0 := by
      have : 0 < d * d * d * d * d * d * d := by
        repeat first | exact hd1 | refine Nat.mul_pos ?_ hd1
      omega
    rw [eD]
    refine of_lfraction hD ?_
    have fin : fr (rat (topI P pl b) ((d * d * d * d * d * d * d : Nat) : Int)) = rq (fW C 3 pl (b.1 ++ b.2)) := by
      refine fr_rq' (low_rat hD) ?_
      rw [qv_rat hD, top_eq hP hpl b1 b2 b3]
      have := ic_ne hD
      generalize (((d * d * d * d * d * d * d : Nat) : Int) : Rat) = D at *
      grind
    rw [fin]
    walk_at "rl"
    exact q
end
end Py
namespace Py
open PySem D
local macro_rules
  | `(tactic| walk_at "w") => `(tactic| with_reducible first
    | refine seq_nx ?_ | refine seq_rt ?_ | refine seq_bk ?_ | refine seq_ct ?_ | refine wp_seq ?_ | refine wp_asg ?_ | refine wp_next ?_ | refine wp_ret ?_ | refine wp_retN ?_ | refine wp_brk ?_ | refine wp_cont ?_ | refine wp_expr ?_ | refine wp_op ?_ | refine wp_un ?_ | refine wp_c ?_
    | refine unB ?_ | refine wp_truB ?_ | refine wp_and ?_ | refine wp_or ?_ | refine wp_not ?_ | refine wp_ifE ?_ | refine wp_tup ?_ | refine wp_lst ?_ | refine wp_lcons ?_ | refine wp_lnil ?_ | refine frzV ?_ | refine frzN ?_ | refine wp_frz ?_ | refine wp_sl ?_ | refine wp_onone ?_ | refine wp_osome ?_
    | refine wp_anil ?_ | refine wp_av ?_ | refine wp_andV ?_ | refine wp_orV ?_ | refine wp_notV ?_ | refine wp_fgtR ?_ | refine turn_nx ?_ | refine turn_rt ?_ | refine turn_bk ?_ | refine turn_ct ?_ | refine fgt_rt ?_ | refine wp_par ?_ | refine wp_chain ?_ | refine wp_seqI ?_)
local macro_rules
  | `(tactic| walk_at "put") => `(tactic| focus ((repeat apply PutR.s); first | exact PutR.z rfl | exact PutR.z (by assumption)))
local macro_rules
  | `(tactic| walk_at "set") => `(tactic| focus ((repeat apply SetR.s); first | exact SetR.o | exact SetR.r))
local macro_rules
  | `(tactic| walk_at "fgt") => `(tactic| focus (repeat first | exact FgtsR.nil | exact FgtR.k | exact FgtR.z rfl | exact FgtR.z (by assumption) | apply FgtR.s | apply FgtsR.cons))
local macro_rules
  | `(tactic| walk_at "x") => `(tactic| first
    | ((with_reducible apply wp_varV); (focus exact rfl)) | ((with_reducible apply wp_varO); (focus exact rfl)) | ((with_reducible apply wp_varR); (focus exact rfl))
    | ((with_reducible apply opq); (focus exact rfl); (focus exact rfl); (focus (first | exact ev_eqI | exact ev_neI | exact ev_ltI | exact ev_leI | exact ev_gtI | exact ev_geI | exact ev_in2 | exact ev_in2n | exact ev_in4n | exact ev_isT | exact ev_isF | exact ev_isnT | exact ev_isnF | exact ev_eqQ0 | exact ev_eqQ1 | exact ev_eqQ | exact ev_neQ | exact ev_strT | exact ev_strF n1 | exact ev_strF n2 | exact ev_strF n3 | exact ev_strF n4 | exact ev_strF n5 | exact ev_strF n6 | exact rfl)))
    | ((with_reducible apply unq); (focus exact rfl); (focus exact rfl))
    | ((with_reducible first | apply putqV | apply putqN); walk_at "put")
    | ((with_reducible apply putqB); (focus exact rfl); (focus exact rfl); walk_at "put"; walk_at "put")
    | ((with_reducible apply putq2); walk_at "put"; walk_at "put")
    | ((with_reducible apply parq); walk_at "put"; walk_at "put")
    | ((with_reducible apply wp_callR); (focus (repeat first | exact RefsR.nil | apply RefsR.v | apply RefsR.r)); (focus decide))
    | ((with_reducible apply wp_ar); (focus exact rfl))
    | ((with_reducible apply fin_rt); (focus exact rfl); (focus exact rfl))
    | ((with_reducible apply fin_nx); (focus exact rfl))
    | ((with_reducible apply wp_appendR); (focus exact rfl))
    | (with_reducible refine ⟨_, rfl, ?_⟩) | (with_reducible refine ⟨_, .inl rfl, ?_⟩) | (with_reducible refine ⟨_, .inr (.inl rfl), ?_⟩) | (with_reducible refine ⟨_, .inr (.inr rfl), ?_⟩)
    | (with_reducible apply callq0) | ((with_reducible apply frzB); (focus exact rfl); (focus exact rfl); walk_at "put")
    | ((with_reducible apply callq1); walk_at "set")
    | ((with_reducible apply callq2); walk_at "set"; walk_at "set")
    | ((with_reducible first | apply fgt_nx | apply fgt_bk | apply fgt_ct); walk_at "fgt")
    | ((with_reducible apply brT); (focus exact rfl)) | ((with_reducible apply brF); (focus exact rfl)))
local macro_rules
  | `(tactic| walk_at "r") => `(tactic| repeat first | walk_at "w" | walk_at "x")
local macro_rules
  | `(tactic| walk_at "ri") => `(tactic| repeat first | walk_at "w" | walk_at "x" | (with_reducible refine wp_if ?_))
local macro_rules
  | `(tactic| walk_at "app") => `(tactic| ((with_reducible apply appq); (focus exact rfl); (focus ((try simp only [List.length_map, List.length_nil, List.length_cons, List.length_append]); unfold line; omega)); walk_at "set"))
local macro_rules
  | `(tactic| walk_at "mul") => `(tactic| ((refine opq rfl rfl (ev_mul ?_) ?_); (focus (apply mulT <;> omega))))
local macro_rules
  | `(tactic| walk_at "rm") => `(tactic| repeat first | walk_at "w" | walk_at "x" | walk_at "mul")
local macro_rules
  | `(tactic| walk_at "len") => `(tactic| (refine And.intro ?_ ?_; (focus (simp [line]; done))))
local macro_rules
  | `(tactic| walk_at "rl") => `(tactic| repeat first | walk_at "w" | walk_at "x" | walk_at "len")
local macro_rules
  | `(tactic| walk_at "ril") => `(tactic| repeat first | walk_at "w" | walk_at "x" | walk_at "len" | (with_reducible refine wp_if ?_))
/-! QLp: eight players. -/
section
variable {Q : R → List Ob → Prop} {C : Nat → Nat → Rat} {d pl : Nat} {ds : List Int}
theorem plain_bst {f : List Nat → Rat} {o : Option (List Nat)} (h : ∀ s, o = some s → s.length ≤ 1000) : Plain 40 (bstV f o) := by
  have hln : (line : Nat) = 16777216 := rfl
  cases o with
  | none => exact .none
  | some s =>
    refine .tuple (n := 39) (by simp [line]) fun x hx => ?_
    simp only [List.mem_cons, List.not_mem_nil, or_false] at hx
    rcases hx with rfl | rfl
    · exact plain_fr (n := 37)
    · refine .tuple (n := 38) (by have := h s rfl; rw [List.length_map]; omega) fun y hy => ?_
      obtain ⟨z, _, rfl⟩ := List.mem_map.mp hy
      exact .int
theorem plain_best {k : Nat} (hk : k ≤ 3) : Plain 40 (bstV (fW C k pl) (bestO (fW C k pl) (SL k))) := plain_bst fun s e => by
  have h8 : 2 ^ k ≤ 8 := Nat.pow_le_pow_right (n := 2) (by decide) hk
  rw [(SL_mem (bestO_mem e)).length_eq, List.length_range]
  omega
def prtP (d : Nat) (C : Nat → Nat → Rat) (p q : Nat) : Int := (C p q).num * (d : Int).fdiv ((C p q).den : Int)
theorem prt_ok (hd : 1 ≤ d) (h6 : d ≤ 6) (hC : Lad 8 97 C) (hD : ∀ p, p < 8 → ∀ q, q < 8 → (C p q).den ∣ d) : Prt d (prtP d C) C := by
  have he : ∀ p, p < 8 → ∀ q, q < 8 → (prtP d C p q : Rat) = (d : Rat) * C p q := fun p hp q hq => by
    obtain ⟨m, hm⟩ := hD p hp q hq
    have hn := mul_den (C p q)
    have h0 : 0 < (C p q).den := (C p q).den_pos
    unfold prtP
    have e1 : (d : Int).fdiv ((C p q).den : Int) = (m : Int) := by
      rw [hm, Int.natCast_mul, Int.mul_fdiv_cancel_left _ (by omega)]
    rw [e1, Rat.intCast_mul, ← hn, Rat.intCast_natCast]
    have e2 : (d : Rat) = ((C p q).den : Rat) * (m : Rat) := by
      conv => lhs; rw [hm]
      rw [Rat.natCast_mul]
    rw [e2]
    grind
  refine ⟨hd, h6, he, fun p hp q hq => ?_⟩
  have h := he p hp q hq
  have hn := hC.nn p hp q hq
  have hd0 : (0 : Rat) ≤ (d : Rat) := by exact_mod_cast Nat.zero_le d
  have l1 : (0 : Rat) ≤ (prtP d C p q : Rat) := by rw [h]; exact Rat.mul_nonneg hd0 hn.1
  have l2 : (prtP d C p q : Rat) ≤ ((d : Int) : Rat) := by
    rw [h, Rat.intCast_natCast]
    have := Rat.mul_nonneg hd0 (show 0 ≤ 1 - C p q by grind)
    grind
  have m1 : 0 ≤ prtP d C p q := by exact_mod_cast l1
  have m2 : prtP d C p q ≤ (d : Int) := Rat.intCast_le_intCast.mp l2
  omega
theorem of_eight_right (q : ∀ ds', Q (.val (.bool true)) [intsO ds']) : Ret d_law_eight_is_right_k64_2 [.ref (intsO ds)] Q := by
  have hln : (line : Nat) = 16777216 := rfl
  refine ret_mkR (by repeat constructor) ?_
  unfold b_law_eight_is_right_k64_2
  walk_at "rl"
  refine of_take (by decide) fun x ds hx1 hx2 => ?_
  obtain ⟨x, rfl⟩ := Int.eq_ofNat_of_zero_le hx1
  walk_at "rl"
  rw [show (1 : Int) + (x : Int) = ((x + 1 : Nat) : Int) by omega]
  have hx6 : x + 1 ≤ 6 := by omega
  have hx0 : 1 ≤ x + 1 := by omega
  generalize x + 1 = d at *
  refine of_ladderD (n := 8) (b := 97) (by omega) (by omega) (by decide) (Nat.lt_of_le_of_lt hx6 (by decide)) fun C ds hC hD => ?_
  have hP := prt_ok hx0 hx6 hC hD
  walk_at "rl"
  refine wp_lcS (ρ1 := [some (.ref (intsO ds)), some (.val (.int (d : Int))), some (.val (.tuple (ladV 8 C))), none, none, none, none]) (ladV 8 C) (fun p => .list (rowI (prtP d C) p)) (by simp) (by simp [ladV]; omega) ?_ ?_ ?_
  · walk_at "rl"
    first | rfl | exact ⟨.inr (.inl rfl), rfl⟩
  · intro p hp
    have hp8 : p < 8 := by simpa [ladV] using hp
    have e : (ladV 8 C)[p]'hp = .tuple (rowP 8 (C p)) := by simp [ladV]
    generalize (ladV 8 C)[p]'hp = rw0 at e ⊢
    subst e
    dsimp only [set_s, set_z]
    unfold e2_law_eight_is_right_k64_2
    refine wp_lcP (ρ1 := [some (.ref (intsO ds)), some (.val (.int (d : Int))), some (.val (.tuple (ladV 8 C))), none, none, some (.val (.tuple (rowP 8 (C p)))), none]) 8 (C p) (fun q => .int (prtP d C p q)) (by simp) (by omega) ?_ ?_ ?_
    · walk_at "rl"
      first | rfl | exact ⟨.inr (.inl rfl), rfl⟩
    · intro q hq
      dsimp only [set_s, set_z]
      unfold e1_law_eight_is_right_k64_2
      walk_at "rl"
      have h0 : 0 < (C p q).den := (C p q).den_pos
      refine opq rfl rfl (ev_div (a := (d : Int)) (b := ((C p q).den : Int)) (by omega)) ?_
      walk_at "rl"
      have hnb := (hC.bits p hp8 q hq).1
      have hdv : ((d : Int).fdiv ((C p q).den : Int)).natAbs < 2 ^ 3 := by
        obtain ⟨m, hm⟩ := hD p hp8 q hq
        have e1 : (d : Int).fdiv ((C p q).den : Int) = (m : Int) := by
          conv => lhs; rw [hm]
          rw [Int.natCast_mul, Int.mul_fdiv_cancel_left _ (by omega)]
        rw [e1]
        have : m ≤ d := by
          rw [hm]
          exact Nat.le_mul_of_pos_left _ h0
        omega
      refine opq rfl rfl (ev_mul (mulOk_of 97 3 hnb hdv (by omega))) ?_
      walk_at "rl"
      first | rfl | exact ⟨rfl, rfl⟩
    walk_at "rl"
    first | rfl | exact ⟨rfl, rfl⟩
  have es : ((List.range (ladV 8 C).length).map fun p => PyData.list (rowI (prtP d C) p)) = (List.range 8).map fun p => .list (rowI (prtP d C) p) := by simp [ladV]
  rw [es]
  walk_at "rl"
  refine of_take (by decide) fun pl ds hp1 hp2 => ?_
  obtain ⟨pl, rfl⟩ := Int.eq_ofNat_of_zero_le hp1
  have hpl : pl < 8 := by omega
  walk_at "rl"
  refine of_best_places (pl := pl) hC (by decide : 3 ≤ 3) rfl hpl ?_
  walk_at "rl"
  refine of_best_eight (pl := pl) hP hpl ?_
  walk_at "rl"
  refine of_same (plain_best (by decide)) ?_
  walk_at "rl"
  exact q ds
end
end Py
namespace Py
open PySem D
local macro_rules
  | `(tactic| walk_at "w") => `(tactic| with_reducible first
    | refine seq_nx ?_ | refine seq_rt ?_ | refine seq_bk ?_ | refine seq_ct ?_ | refine wp_seq ?_ | refine wp_asg ?_ | refine wp_next ?_ | refine wp_ret ?_ | refine wp_retN ?_ | refine wp_brk ?_ | refine wp_cont ?_ | refine wp_expr ?_ | refine wp_op ?_ | refine wp_un ?_ | refine wp_c ?_
    | refine unB ?_ | refine wp_truB ?_ | refine wp_and ?_ | refine wp_or ?_ | refine wp_not ?_ | refine wp_ifE ?_ | refine wp_tup ?_ | refine wp_lst ?_ | refine wp_lcons ?_ | refine wp_lnil ?_ | refine frzV ?_ | refine frzN ?_ | refine wp_frz ?_ | refine wp_sl ?_ | refine wp_onone ?_ | refine wp_osome ?_
    | refine wp_anil ?_ | refine wp_av ?_ | refine wp_andV ?_ | refine wp_orV ?_ | refine wp_notV ?_ | refine wp_fgtR ?_ | refine turn_nx ?_ | refine turn_rt ?_ | refine turn_bk ?_ | refine turn_ct ?_ | refine fgt_rt ?_ | refine wp_par ?_ | refine wp_chain ?_ | refine wp_seqI ?_)
local macro_rules
  | `(tactic| walk_at "put") => `(tactic| focus ((repeat apply PutR.s); first | exact PutR.z rfl | exact PutR.z (by assumption)))
local macro_rules
  | `(tactic| walk_at "set") => `(tactic| focus ((repeat apply SetR.s); first | exact SetR.o | exact SetR.r))
local macro_rules
  | `(tactic| walk_at "fgt") => `(tactic| focus (repeat first | exact FgtsR.nil | exact FgtR.k | exact FgtR.z rfl | exact FgtR.z (by assumption) | apply FgtR.s | apply FgtsR.cons))
local macro_rules
  | `(tactic| walk_at "x") => `(tactic| first
    | ((with_reducible apply wp_varV); (focus exact rfl)) | ((with_reducible apply wp_varO); (focus exact rfl)) | ((with_reducible apply wp_varR); (focus exact rfl))
    | ((with_reducible apply opq); (focus exact rfl); (focus exact rfl); (focus (first | exact ev_eqI | exact ev_neI | exact ev_ltI | exact ev_leI | exact ev_gtI | exact ev_geI | exact ev_in2 | exact ev_in2n | exact ev_in4n | exact ev_isT | exact ev_isF | exact ev_isnT | exact ev_isnF | exact ev_eqQ0 | exact ev_eqQ1 | exact ev_eqQ | exact ev_neQ | exact ev_strT | exact ev_strF n1 | exact ev_strF n2 | exact ev_strF n3 | exact ev_strF n4 | exact ev_strF n5 | exact ev_strF n6 | exact rfl)))
    | ((with_reducible apply unq); (focus exact rfl); (focus exact rfl))
    | ((with_reducible first | apply putqV | apply putqN); walk_at "put")
    | ((with_reducible apply putqB); (focus exact rfl); (focus exact rfl); walk_at "put"; walk_at "put")
    | ((with_reducible apply putq2); walk_at "put"; walk_at "put")
    | ((with_reducible apply parq); walk_at "put"; walk_at "put")
    | ((with_reducible apply wp_callR); (focus (repeat first | exact RefsR.nil | apply RefsR.v | apply RefsR.r)); (focus decide))
    | ((with_reducible apply wp_ar); (focus exact rfl))
    | ((with_reducible apply fin_rt); (focus exact rfl); (focus exact rfl))
    | ((with_reducible apply fin_nx); (focus exact rfl))
    | ((with_reducible apply wp_appendR); (focus exact rfl))
    | (with_reducible refine ⟨_, rfl, ?_⟩) | (with_reducible refine ⟨_, .inl rfl, ?_⟩) | (with_reducible refine ⟨_, .inr (.inl rfl), ?_⟩) | (with_reducible refine ⟨_, .inr (.inr rfl), ?_⟩)
    | (with_reducible apply callq0) | ((with_reducible apply frzB); (focus exact rfl); (focus exact rfl); walk_at "put")
    | ((with_reducible apply callq1); walk_at "set")
    | ((with_reducible apply callq2); walk_at "set"; walk_at "set")
    | ((with_reducible first | apply fgt_nx | apply fgt_bk | apply fgt_ct); walk_at "fgt")
    | ((with_reducible apply brT); (focus exact rfl)) | ((with_reducible apply brF); (focus exact rfl)))
local macro_rules
  | `(tactic| walk_at "r") => `(tactic| repeat first | walk_at "w" | walk_at "x")
local macro_rules
  | `(tactic| walk_at "ri") => `(tactic| repeat first | walk_at "w" | walk_at "x" | (with_reducible refine wp_if ?_))
local macro_rules
  | `(tactic| walk_at "app") => `(tactic| ((with_reducible apply appq); (focus exact rfl); (focus ((try simp only [List.length_map, List.length_nil, List.length_cons, List.length_append]); unfold line; omega)); walk_at "set"))
local macro_rules
  | `(tactic| walk_at "mul") => `(tactic| ((refine opq rfl rfl (ev_mul ?_) ?_); (focus (apply mulT <;> omega))))
local macro_rules
  | `(tactic| walk_at "rm") => `(tactic| repeat first | walk_at "w" | walk_at "x" | walk_at "mul")
local macro_rules
  | `(tactic| walk_at "len") => `(tactic| (refine And.intro ?_ ?_; (focus (simp [line]; done))))
local macro_rules
  | `(tactic| walk_at "rl") => `(tactic| repeat first | walk_at "w" | walk_at "x" | walk_at "len")
local macro_rules
  | `(tactic| walk_at "ril") => `(tactic| repeat first | walk_at "w" | walk_at "x" | walk_at "len" | (with_reducible refine wp_if ?_))
/-! Q_k64: the best places. -/
section
variable {Q : R → List Ob → Prop} {n k : Nat} {C : Nat → Nat → Rat} {ns ds : List Int}
def hf : Rat := ⟨1, 2, by decide, by decide⟩
theorem hf2 : hf + hf = 1 := by
  have h := mul_den hf
  have e1 : ((hf.den : Nat) : Rat) = 2 := rfl
  have e2 : ((hf.num : Int) : Rat) = 1 := rfl
  rw [e1, e2] at h
  grind
def evC (p q : Nat) : Rat := if p = q then 0 else hf
theorem evC_lad : Lad 4 97 evC := by
  have hz : (0 : Rat) ≤ hf ∧ hf ≤ 1 := ⟨by decide, by decide⟩
  refine ⟨fun p _ q _ => ?_, fun p _ q _ h => ?_, fun p _ => ?_, fun p _ q _ => ?_⟩
  · unfold evC; split
    · exact bq_0.mono (by decide)
    · exact ⟨by decide, by decide⟩
  · unfold evC; rw [if_neg h, if_neg (fun z => h z.symm)]; exact hf2
  · unfold evC; rw [if_pos rfl]
  · unfold evC; split
    · exact ⟨Rat.le_refl, by decide⟩
    · exact hz
def raC (p q : Nat) : Rat := if (p = 0 ∧ (q = 1 ∨ q = 2)) ∨ (p = 1 ∧ (q = 2 ∨ q = 3)) ∨ (p = 2 ∧ q = 3) ∨ (p = 3 ∧ q = 0) then 1 else 0
theorem raC_lad : Lad 4 97 raC := by
  refine ⟨fun p _ q _ => ?_, fun p hp q hq h => ?_, fun p _ => ?_, fun p _ q _ => ?_⟩
  · unfold raC; split
    · exact bq_1.mono (by decide)
    · exact bq_0.mono (by decide)
  · have : ∀ p, p < 4 → ∀ q, q < 4 → p ≠ q → raC p q + raC q p = 1 := by decide +kernel
    exact this p hp q hq h
  · unfold raC; rw [if_neg (by omega)]
  · unfold raC; split <;> exact ⟨by decide, by decide⟩
theorem ev_best : bestO (fW evC 2 2) (SL 2) = some [0, 1, 2, 3] ∧ (fW evC 2 2 [0, 1, 2, 3]).num = 1 ∧ (fW evC 2 2 [0, 1, 2, 3]).den = 4 := by
  rw [sl2]
  decide +kernel
theorem ra_best0 : bestO (fW raC 2 0) (SL 2) = some [0, 1, 2, 3] ∧ (fW raC 2 0 [0, 1, 2, 3]).num = 1 ∧ (fW raC 2 0 [0, 1, 2, 3]).den = 1 := by
  rw [sl2]
  decide +kernel
theorem ra_best1 : bestO (fW raC 2 1) (SL 2) = some [0, 3, 1, 2] ∧ (fW raC 2 1 [0, 3, 1, 2]).num = 1 ∧ (fW raC 2 1 [0, 3, 1, 2]).den = 1 := by
  rw [sl2]
  decide +kernel
theorem bst_eq {f : List Nat → Rat} {o : Option (List Nat)} {s : List Nat} {a : Int} {b : Nat} (h : o = some s ∧ (f s).num = a ∧ (f s).den = b) : bstV f o = .tuple [.tuple [.int a, .int (b : Int)], tupN s] := by
  obtain ⟨h1, h2, h3⟩ := h
  subst h1
  unfold bstV rq fr
  dsimp only
  rw [h2, h3]
theorem pow2_of {w : Int} (h : w ∈ [(1 : Int), 2, 4, 4]) : ∃ k : Nat, k ≤ 2 ∧ w = ((2 ^ k : Nat) : Int) := by
  simp only [List.mem_cons, List.not_mem_nil, or_false] at h
  rcases h with rfl | rfl | rfl | rfl
  · exact ⟨0, by decide, by decide⟩
  · exact ⟨1, by decide, by decide⟩
  · exact ⟨2, by decide, by decide⟩
  · exact ⟨2, by decide, by decide⟩
theorem Law_k64_holds (ns : List Int) (hl : ns.length ≤ 63) (hb : ∀ z ∈ ns, Builtin.Int.intBits z ≤ 1048576) : ∃ os, d_law_k64_3 [.val (.list (ns.map PyData.int))] = some (.val (.bool true), os) := by
  suffices h : Ret d_law_k64_3 [.val (.list (ns.map PyData.int))] fun r _ => r = .val (.bool true) by
    obtain ⟨r, os, e, q⟩ := h
    exact ⟨os, by rw [e, q]⟩
  have hln : (line : Nat) = 16777216 := rfl
  refine ret_mkR (by repeat constructor) ?_
  unfold b_law_k64_3
  walk_at "rl"
  refine of_draws (m := 120) hb hl (by decide) fun ds => ?_
  walk_at "rl"
  refine of_take (by decide) fun i ds hi1 hi2 => ?_
  walk_at "rl"
  obtain ⟨w, hw, hat⟩ := pickI (xs := [1, 2, 4, 4]) hi1 (by simpa using hi2)
  refine opq rfl rfl (ev_ix (.inr (.inr rfl)) hat) ?_
  obtain ⟨k, hk, rfl⟩ := pow2_of hw
  clear hw hat
  have h4 : 2 ^ k ≤ 4 := Nat.pow_le_pow_right (n := 2) (by decide) hk
  walk_at "rl"
  refine of_take (by decide) fun i2 ds hj1 hj2 => ?_
  walk_at "rl"
  obtain ⟨w2, hw2, hat2⟩ := pickI (xs := [2, 12, 30]) hj1 (by simpa using hj2)
  refine opq rfl rfl (ev_ix (.inr (.inr rfl)) hat2) ?_
  have hw3 : 0 < w2 ∧ w2 ≤ 30 := by
    simp only [List.mem_cons, List.not_mem_nil, or_false] at hw2
    omega
  walk_at "rl"
  refine of_take (by omega) fun d ds hd1 hd2 => ?_
  obtain ⟨d, rfl⟩ := Int.eq_ofNat_of_zero_le hd1
  walk_at "rl"
  rw [show (1 : Int) + (d : Int) = ((d + 1 : Nat) : Int) by omega]
  refine wp_mid (fun ρ => ∃ (ds : List Int) (D : Nat), 1 ≤ D ∧ D < 2 ^ 97 ∧ ρ = [some (.val (.list (ns.map PyData.int))), some (.own (intsO ds)), some (.val (.int ((2 ^ k : Nat) : Int))), some (.val (.int (D : Int))), none, none, none, none, none, none, none]) ?_ ?_
  · walk_at "rl"
    refine wp_if ?_
    walk_at "rl"
    refine of_take (by decide) fun c ds _ _ => ?_
    walk_at "rl"
    refine branchD (fun _ => ?_) fun _ => ?_
    rotate_left
    · walk_at "rl"
      exact ⟨ds, d + 1, by omega, Nat.lt_of_le_of_lt (show d + 1 ≤ 30 by omega) (by decide), rfl⟩
    walk_at "rl"
    refine of_take (by decide) fun y ds _ _ => ?_
    walk_at "rl"
    refine of_cell (N := 0) fun z hz => ?_
    walk_at "rl"
    refine of_take (by decide) fun y2 ds hy1 hy2 => ?_
    walk_at "rl"
    rw [show (10 : Int) ^ Int.toNat 29 = ((10 ^ 29 : Nat) : Int) by rw [Int.natCast_pow]; rfl, show (10 : Int) ^ Int.toNat 28 = ((10 ^ 28 : Nat) : Int) by rw [Int.natCast_pow]; rfl]
    have f1 := Int.fmod_nonneg (a := (z.natAbs : Int) + y2) (b := ((10 ^ 28 : Nat) : Int)) (by omega) (by omega)
    have f2 := Int.fmod_lt_of_pos ((z.natAbs : Int) + y2) (show 0 < ((10 ^ 28 : Nat) : Int) by omega)
    generalize ((z.natAbs : Int) + y2).fmod ((10 ^ 28 : Nat) : Int) = f at *
    obtain ⟨D, hD⟩ := Int.eq_ofNat_of_zero_le (show 0 ≤ ((10 ^ 29 : Nat) : Int) - 1 - f by omega)
    rw [hD]
    walk_at "rl"
    exact ⟨ds, D, by omega, Nat.lt_of_le_of_lt (show D ≤ 10 ^ 29 by omega) (by decide), rfl⟩
  clear hd1 hd2 hw3 hw2 hat2 d w2 ds
  rintro _ ⟨ds, D, hD1, hD2, rfl⟩
  walk_at "rl"
  refine of_ladder (n := 2 ^ k) (b := 97) (by omega) hD1 (by decide) hD2 fun C ds hC => ?_
  walk_at "rl"
  have hbest : ∀ pl, pl < 2 ^ k → ∃ b, bestO (fW C k pl) (SL k) = some b ∧ bestO (fW C k pl) (ordF (2 ^ k) (2 ^ k)) = some b := fun pl h => (small_best hk rfl h).2
  have hO : ∀ s ∈ ordF (2 ^ k) (2 ^ k), s.Perm (List.range (2 ^ k)) := (small_best (C := C) hk rfl (Nat.two_pow_pos k)).1
  refine wp_forN (fun i ρ => ρ = [some (.val (.list (ns.map PyData.int))), some (.own (intsO ds)), some (.val (.int ((2 ^ k : Nat) : Int))), some (.val (.int (D : Int))), some (.val (.tuple (ladV (2 ^ k) C))), none, none, none, none, none, none]) (2 ^ k) ?_ ?_ ?_
  · walk_at "rl"
    exact ⟨rfl, by omega, rfl⟩
  · rintro pl _ hpl rfl
    obtain ⟨b, e1, e2⟩ := hbest pl hpl
    unfold l1_law_k64_3
    walk_at "rl"
    refine wp_if ?_
    walk_at "rl"
    refine of_best_places (pl := pl) hC (by omega) rfl hpl ?_
    walk_at "rl"
    refine of_best_of_all (pl := pl) hC hk rfl hpl hO b e2 ?_
    walk_at "rl"
    have hpb := plain_best (C := C) (pl := pl) (show k ≤ 3 by omega)
    rw [e1] at hpb ⊢
    refine of_same (v := .tuple [rq (fW C k pl b), tupN b]) hpb ?_
    walk_at "rl"
    try rfl
  rintro _ rfl
  walk_at "rl"
  refine of_take (by have := Nat.two_pow_pos k; omega) fun pl ds hp1 hp2 => ?_
  obtain ⟨pl, rfl⟩ := Int.eq_ofNat_of_zero_le hp1
  have hpl : pl < 2 ^ k := by omega
  walk_at "rl"
  obtain ⟨b, e1, e2⟩ := hbest pl hpl
  refine wp_if ?_
  walk_at "rl"
  refine of_best_places (pl := pl) hC (by omega) rfl hpl ?_
  walk_at "rl"
  refine of_best_of_all (pl := pl) hC hk rfl hpl hO b e2 ?_
  walk_at "rl"
  have hpb := plain_best (C := C) (pl := pl) (show k ≤ 3 by omega)
  rw [e1] at hpb ⊢
  refine of_same (v := .tuple [rq (fW C k pl b), tupN b]) hpb ?_
  walk_at "rl"
  refine wp_mid (fun ρ => ∃ (ds : List Int), ρ = [some (.val (.list (ns.map PyData.int))), some (.own (intsO ds)), some (.val (.int ((2 ^ k : Nat) : Int))), some (.val (.int (D : Int))), some (.val (.tuple (ladV (2 ^ k) C))), some (.val (natI pl)), none, none, none, none, none]) ?_ ?_
  · refine wp_if ?_
    walk_at "rl"
    refine of_take (by decide) fun c ds _ _ => ?_
    walk_at "rl"
    refine ⟨fun _ => ?_, fun _ => ?_⟩
    · walk_at "rl"
      refine of_eight_right fun ds => ?_
      walk_at "rl"
      exact ⟨ds, rfl⟩
    · walk_at "rl"
      exact ⟨ds, rfl⟩
  rintro _ ⟨ds, rfl⟩
  walk_at "rl"
  refine wp_lcN (ρ1 := [some (.val (.list (ns.map PyData.int))), some (.own (intsO ds)), some (.val (.int ((2 ^ k : Nat) : Int))), some (.val (.int (D : Int))), some (.val (.tuple (ladV (2 ^ k) C))), some (.val (natI pl)), some (.val (.tuple [.int 1, .int 2])), none, none, none, none]) 4 (fun p => .tuple (rowP 4 (evC p))) (by simp) (by omega) ?_ ?_ ?_
  · walk_at "rl"
    exact ⟨rfl, rfl⟩
  · intro p hp
    dsimp only [set_s, set_z]
    unfold e3_law_k64_3
    walk_at "rl"
    refine wp_lcN (ρ1 := [some (.val (.list (ns.map PyData.int))), some (.own (intsO ds)), some (.val (.int ((2 ^ k : Nat) : Int))), some (.val (.int (D : Int))), some (.val (.tuple (ladV (2 ^ k) C))), some (.val (natI pl)), some (.val (.tuple [.int 1, .int 2])), none, none, some (.val (natI p)), none]) 4 (fun q => rq (evC p q)) (by simp) (by omega) ?_ ?_ ?_
    · walk_at "rl"
      exact ⟨rfl, rfl⟩
    · intro q hq
      dsimp only [set_s, set_z]
      unfold e2_law_k64_3
      walk_at "rl"
      have ew : fIx (.ob (.lst [PyData.tuple [.int 1, .int 2], .tuple [.int 0, .int 1]])) (.pv (.int (if decide ((p : Int) = (q : Int)) then 1 else 0))) = some (.val (rq (evC p q))) := by
        unfold evC
        by_cases c : p = q
        · rw [if_pos c, decide_eq_true (show (p : Int) = (q : Int) by omega), if_pos rfl]; rfl
        · rw [if_neg c, decide_eq_false (show ¬ (p : Int) = (q : Int) by omega), if_neg (by decide)]; rfl
      refine opq rfl rfl ew ?_
      walk_at "rl"
      first | rfl | exact ⟨rfl, rfl⟩
    rw [rowP_map]
    walk_at "rl"
    first | rfl | exact ⟨rfl, rfl⟩
  have es : ((List.range 4).map fun p => PyData.tuple (rowP 4 (evC p))) = ladV 4 evC := rfl
  rw [es]
  walk_at "rl"
  refine wp_if ?_
  walk_at "rl"
  refine of_best_places (n := 4) (k := 2) (pl := 2) evC_lad (by decide) rfl (by decide) ?_
  have hp2 := plain_best (C := evC) (pl := 2) (show 2 ≤ 3 by decide)
  rw [bst_eq ev_best] at hp2 ⊢
  walk_at "rl"
  refine of_same (v := .tuple [.tuple [.int 1, .int 4], tupN [0, 1, 2, 3]]) hp2 ?_
  walk_at "rl"
  have er : (PyData.tuple [.tuple [.tuple [.int 0, .int 1], .tuple [.int 1, .int 1], .tuple [.int 1, .int 1], .tuple [.int 0, .int 1]], .tuple [.tuple [.int 0, .int 1], .tuple [.int 0, .int 1], .tuple [.int 1, .int 1], .tuple [.int 1, .int 1]], .tuple [.tuple [.int 0, .int 1], .tuple [.int 0, .int 1], .tuple [.int 0, .int 1], .tuple [.int 1, .int 1]], .tuple [.tuple [.int 1, .int 1], .tuple [.int 0, .int 1], .tuple [.int 0, .int 1], .tuple [.int 0, .int 1]]]) = .tuple (ladV 4 raC) := rfl
  rw [er]
  refine of_best_places (n := 4) (k := 2) (pl := 0) raC_lad (by decide) rfl (by decide) ?_
  have hp3 := plain_best (C := raC) (pl := 0) (show 2 ≤ 3 by decide)
  rw [bst_eq ra_best0] at hp3 ⊢
  walk_at "rl"
  refine of_same (v := .tuple [.tuple [.int 1, .int 1], tupN [0, 1, 2, 3]]) hp3 ?_
  walk_at "rl"
  refine of_best_places (n := 4) (k := 2) (pl := 1) raC_lad (by decide) rfl (by decide) ?_
  have hp4 := plain_best (C := raC) (pl := 1) (show 2 ≤ 3 by decide)
  rw [bst_eq ra_best1] at hp4 ⊢
  walk_at "rl"
  refine of_same (v := .tuple [.tuple [.int 1, .int 1], tupN [0, 3, 1, 2]]) hp4 ?_
  walk_at "rl"
  rfl
end
end Py
theorem Law_k64.holds : ∀ ns : List Int, ns.length ≤ 63 → (∀ z ∈ ns, PySem.Builtin.Int.intBits z ≤ 1048576) → ∃ os, D.d_law_k64_3 [.val (.list (ns.map PySem.PyData.int))] = some (.val (.bool true), os) := Py.Law_k64_holds
/-! the walk (printed by gen.py) -/
namespace Law_k64
open PySem PySem.Spec PyProof.Rows L2 Py D
def topS (i : Nat) : Stmt := PySem.Challenge.pw_nosurebet_k64_best_places.main.body.getD i (.Pass ⟨0, 0, 0, 0⟩)
section
variable {P : Program} {w : World} {K : PySem.W.Frag} {mg : Str → Option Value} {base : Heap}
abbrev s_divisor : Stmt := topS 4
theorem sc_divisor : FnScope ["one", "other"] ["one", "other"] (defScope s_divisor) := ⟨rfl, rfl, rfl, by decide +kernel, rfl, by decide +kernel, by decide +kernel⟩
theorem bi_divisor (D : Df K mg "divisor" s_divisor) : Binds K D.fd ["one", "other"] [] := D.F.binds (ps := ["one", "other"]) fun _ _ _ _ _ _ us hl => match us, hl with | [_, _], _ => rfl
theorem ok_divisor (hs : base.NoSeer) (ht : P.given.tree = none) (D_divisor : Df K mg "divisor" s_divisor) (v_gcd : mg "gcd" = some (.builtin "math.gcd")) : FnOk P w K mg base CX0 (41) D_divisor.f D_divisor.fd ["one", "other"] (spOf K 2 d_divisor) :=
  ok_of D_divisor.F sc_divisor (by decide) hs ht fun cdv A outer s H E c =>
    (bss_one (bs_ret (be_gcd rfl v_gcd (be_var 0) (be_var 1))))
abbrev s_fraction : Stmt := topS 5
theorem sc_fraction : FnScope ["n", "d", "common"] ["n", "d"] (defScope s_fraction) := ⟨rfl, rfl, rfl, by decide +kernel, rfl, by decide +kernel, by decide +kernel⟩
theorem bi_fraction (D : Df K mg "fraction" s_fraction) : Binds K D.fd ["n", "d"] [] := D.F.binds (ps := ["n", "d"]) fun _ _ _ _ _ _ us hl => match us, hl with | [_, _], _ => rfl
theorem ok_fraction (hs : base.NoSeer) (ht : P.given.tree = none) (D_fraction : Df K mg "fraction" s_fraction) (D_divisor : Df K mg "divisor" s_divisor) (G_divisor : FnOk P w K mg base CX0 (41) D_divisor.f D_divisor.fd ["one", "other"] (spOf K 2 d_divisor)) : FnOk P w K mg base CX0 (42) D_fraction.f D_fraction.fd ["n", "d"] (spOf K 2 d_fraction) :=
  ok_of D_fraction.F sc_fraction (by decide) hs ht fun cdv A outer s H E c =>
    (bss_cons (bs_set 2 c.nd (be_call G_divisor (c.room.mono (by omega)) rfl D_divisor.g D_divisor.F.kp (bi_divisor D_divisor) (ba_v (be_var 0) (ba_v (be_var 1) ba_nil))))
    (bss_cons (bs_if (bt_cmp ob_lt (be_var 1) be_int) (bss_one (bs_set 2 c.nd (be_neg (be_var 2)))) bss_nil)
    (bss_one (bs_ret (be_tup (bl_cons (be_op (ob_div c.div) (be_var 0) (be_var 2)) (bl_cons (be_op (ob_div c.div) (be_var 1) (be_var 2)) bl_nil)))))))
abbrev s_plus : Stmt := topS 6
theorem sc_plus : FnScope ["one", "other"] ["one", "other"] (defScope s_plus) := ⟨rfl, rfl, rfl, by decide +kernel, rfl, by decide +kernel, by decide +kernel⟩
theorem bi_plus (D : Df K mg "plus" s_plus) : Binds K D.fd ["one", "other"] [] := D.F.binds (ps := ["one", "other"]) fun _ _ _ _ _ _ us hl => match us, hl with | [_, _], _ => rfl
theorem ok_plus (hs : base.NoSeer) (ht : P.given.tree = none) (D_plus : Df K mg "plus" s_plus) (D_fraction : Df K mg "fraction" s_fraction) (G_fraction : FnOk P w K mg base CX0 (42) D_fraction.f D_fraction.fd ["n", "d"] (spOf K 2 d_fraction)) : FnOk P w K mg base CX0 (43) D_plus.f D_plus.fd ["one", "other"] (spOf K 2 d_plus) :=
  ok_of D_plus.F sc_plus (by decide) hs ht fun cdv A outer s H E c =>
    (bss_one (bs_ret (be_call G_fraction (c.room.mono (by omega)) rfl D_fraction.g D_fraction.F.kp (bi_fraction D_fraction) (ba_v (be_op ob_add (be_op ob_mul (be_ix (be_var 0) be_int) (be_ix (be_var 1) be_int)) (be_op ob_mul (be_ix (be_var 1) be_int) (be_ix (be_var 0) be_int))) (ba_v (be_op ob_mul (be_ix (be_var 0) be_int) (be_ix (be_var 1) be_int)) ba_nil)))))
abbrev s_times : Stmt := topS 7
theorem sc_times : FnScope ["one", "other"] ["one", "other"] (defScope s_times) := ⟨rfl, rfl, rfl, by decide +kernel, rfl, by decide +kernel, by decide +kernel⟩
theorem bi_times (D : Df K mg "times" s_times) : Binds K D.fd ["one", "other"] [] := D.F.binds (ps := ["one", "other"]) fun _ _ _ _ _ _ us hl => match us, hl with | [_, _], _ => rfl
theorem ok_times (hs : base.NoSeer) (ht : P.given.tree = none) (D_times : Df K mg "times" s_times) (D_fraction : Df K mg "fraction" s_fraction) (G_fraction : FnOk P w K mg base CX0 (42) D_fraction.f D_fraction.fd ["n", "d"] (spOf K 2 d_fraction)) : FnOk P w K mg base CX0 (43) D_times.f D_times.fd ["one", "other"] (spOf K 2 d_times) :=
  ok_of D_times.F sc_times (by decide) hs ht fun cdv A outer s H E c =>
    (bss_one (bs_ret (be_call G_fraction (c.room.mono (by omega)) rfl D_fraction.g D_fraction.F.kp (bi_fraction D_fraction) (ba_v (be_op ob_mul (be_ix (be_var 0) be_int) (be_ix (be_var 1) be_int)) (ba_v (be_op ob_mul (be_ix (be_var 0) be_int) (be_ix (be_var 1) be_int)) ba_nil)))))
abbrev s_is_less : Stmt := topS 8
theorem sc_is_less : FnScope ["one", "other"] ["one", "other"] (defScope s_is_less) := ⟨rfl, rfl, rfl, by decide +kernel, rfl, by decide +kernel, by decide +kernel⟩
theorem bi_is_less (D : Df K mg "is_less" s_is_less) : Binds K D.fd ["one", "other"] [] := D.F.binds (ps := ["one", "other"]) fun _ _ _ _ _ _ us hl => match us, hl with | [_, _], _ => rfl
theorem ok_is_less (hs : base.NoSeer) (ht : P.given.tree = none) (D_is_less : Df K mg "is_less" s_is_less) : FnOk P w K mg base CX0 (41) D_is_less.f D_is_less.fd ["one", "other"] (spOf K 2 d_is_less) :=
  ok_of D_is_less.F sc_is_less (by decide) hs ht fun cdv A outer s H E c =>
    (bss_one (bs_ret (be_cmp ob_lt (be_op ob_mul (be_ix (be_var 0) be_int) (be_ix (be_var 1) be_int)) (be_op ob_mul (be_ix (be_var 1) be_int) (be_ix (be_var 0) be_int)))))
abbrev s_winners : Stmt := topS 10
theorem sc_winners : FnScope ["chances", "places", "half", "sides", "found", "one", "against", "player", "chance", "won", "other", "met"] ["chances", "places"] (defScope s_winners) := ⟨rfl, rfl, rfl, by decide +kernel, rfl, by decide +kernel, by decide +kernel⟩
theorem bi_winners (D : Df K mg "winners" s_winners) : Binds K D.fd ["chances", "places"] [] := D.F.binds (ps := ["chances", "places"]) fun _ _ _ _ _ _ us hl => match us, hl with | [_, _], _ => rfl
theorem ok_winners (hs : base.NoSeer) (ht : P.given.tree = none) (D_winners : Df K mg "winners" s_winners) (D_plus : Df K mg "plus" s_plus) (G_plus : FnOk P w K mg base CX0 (43) D_plus.f D_plus.fd ["one", "other"] (spOf K 2 d_plus)) (D_times : Df K mg "times" s_times) (G_times : FnOk P w K mg base CX0 (43) D_times.f D_times.fd ["one", "other"] (spOf K 2 d_times)) (n_len : mg "len" = none) (TNOTHING : CT K mg "NOTHING" [.int 0, .int 1]) (TONE : CT K mg "ONE" [.int 1, .int 1]) : ∀ n : Nat, FnOk P w K mg base CX0 (43 + n) D_winners.f D_winners.fd ["chances", "places"] (spOf K 2 (d_winners n))
  | 0 => ok_none rfl
  | n + 1 => by
    have G_winners := ok_winners hs ht D_winners D_plus G_plus D_times G_times n_len TNOTHING TONE n
    exact ok_of (k := 43 + n) D_winners.F sc_winners (by omega) hs ht fun cdv A outer s H E c =>
    (bss_cons (bs_if (bt_cmp (ob_eq c.units) (be_b1 c_len rfl n_len bt_len (be_var 1)) be_int) (bss_one (bs_ret (be_lst (bl_cons (be_tup (bl_cons (be_ix (be_var 1) be_int) (bl_cons (be_glob rfl TONE.m TONE.d) bl_nil))) bl_nil)))) bss_nil)
    (bss_cons (bs_set 2 c.nd (be_op (ob_div c.div) (be_b1 c_len rfl n_len bt_len (be_var 1)) be_int))
    (bss_cons (bs_set 3 c.nd (be_tup (bl_cons (be_call G_winners c.room rfl D_winners.g D_winners.F.kp (bi_winners D_winners) (ba_v (be_var 0) (ba_v (be_sl (be_var 1) bo_none (bo_some (be_var 2))) ba_nil))) (bl_cons (be_call G_winners c.room rfl D_winners.g D_winners.F.kp (bi_winners D_winners) (ba_v (be_var 0) (ba_v (be_sl (be_var 1) (bo_some (be_var 2)) bo_none) ba_nil))) bl_nil))))
    (bss_cons (bs_set 4 c.nd (be_lst bl_nil))
    (bss_cons (bs_for c.pass c.calm (bi_seq (be_tup (bl_cons (be_var 3) (bl_cons (be_revT (be_var 3)) bl_nil)))) (bg_tup c.calm (bgs_cons 5 c.nd (bgs_cons 6 c.nd bgs_nil))) (bss_fgt [5, 6, 7, 8, 9, 10, 11] (bss_one (bs_for c.pass c.calm (bi_seq (be_frz (be_var 5))) (bg_tup c.calm (bgs_cons 7 c.nd (bgs_cons 8 c.nd bgs_nil))) (bss_fgt [7, 8, 9, 10, 11] (bss_cons (bs_set 9 c.nd (be_glob rfl TNOTHING.m TNOTHING.d))
    (bss_cons (bs_for c.pass c.calm (bi_seq (be_frz (be_var 6))) (bg_tup c.calm (bgs_cons 10 c.nd (bgs_cons 11 c.nd bgs_nil))) (bss_fgt [10, 11] (bss_one (bs_set 9 c.nd (be_call G_plus (c.room.mono (by omega)) rfl D_plus.g D_plus.F.kp (bi_plus D_plus) (ba_v (be_var 9) (ba_v (be_call G_times (c.room.mono (by omega)) rfl D_times.g D_times.F.kp (bi_times D_times) (ba_v (be_var 11) (ba_v (be_ix (be_ix (be_var 0) (be_var 7)) (be_var 10)) ba_nil))) ba_nil)))))))
    (bss_one (bs_expr (be_append 4 (pv 4) (be_tup (bl_cons (be_var 7) (bl_cons (be_call G_times (c.room.mono (by omega)) rfl D_times.g D_times.F.kp (bi_times D_times) (ba_v (be_var 8) (ba_v (be_var 9) ba_nil))) bl_nil)))))))))))))
    (bss_one (bs_ret (be_var 4))))))))
abbrev s_to_win : Stmt := topS 11
theorem sc_to_win : FnScope ["chances", "places", "told", "player"] ["chances", "places"] (defScope s_to_win) := ⟨rfl, rfl, rfl, by decide +kernel, rfl, by decide +kernel, by decide +kernel⟩
theorem bi_to_win (D : Df K mg "to_win" s_to_win) : Binds K D.fd ["chances", "places"] [] := D.F.binds (ps := ["chances", "places"]) fun _ _ _ _ _ _ us hl => match us, hl with | [_, _], _ => rfl
theorem ok_to_win (hs : base.NoSeer) (ht : P.given.tree = none) (D_to_win : Df K mg "to_win" s_to_win) (D_winners : Df K mg "winners" s_winners) (G_winners : FnOk P w K mg base CX0 (83) D_winners.f D_winners.fd ["chances", "places"] (spOf K 2 (d_winners 40))) (n_dict : mg "dict" = none) (n_len : mg "len" = none) (n_range : mg "range" = none) (n_tuple : mg "tuple" = none) : FnOk P w K mg base CX0 (84) D_to_win.f D_to_win.fd ["chances", "places"] (spOf K 2 d_to_win) :=
  ok_of D_to_win.F sc_to_win (by decide) hs ht fun cdv A outer s H E c =>
    (bss_cons (bs_set 2 c.nd (be_t1 (c_dictL c.calm) rfl n_dict bt_dict (be_call G_winners (c.room.mono (by omega)) rfl D_winners.g D_winners.F.kp (bi_winners D_winners) (ba_v (be_var 0) (ba_v (be_var 1) ba_nil)))))
    (bss_one (bs_ret (be_t1 c_tuple rfl n_tuple bt_tuple (be_lcN 3 [("player", 3)] c.calm c.nd (bi_rng1 rfl n_range (be_b1 c_len rfl n_len bt_len (be_var 1))) (blk_at (N := ["chances", "places", "told", "player"]) (sc := defScope s_to_win) rfl rfl (by decide +kernel)) (by decide) rfl (fun _ _ _ _ _ => pg_name (i := 3) c.nd rfl (.inl rfl)) (fun _ _ _ _ _ => bts_nil) (fun _ _ _ _ _ => (be_dget c.units (be_var 2) (be_var 3))))))))
abbrev s_halves_k64_2 : Stmt := topS 12
theorem sc_halves_k64_2 : FnScope ["members", "found", "member", "some"] ["members"] (defScope s_halves_k64_2) := ⟨rfl, rfl, rfl, by decide +kernel, rfl, by decide +kernel, by decide +kernel⟩
theorem bi_halves_k64_2 (D : Df K mg "halves" s_halves_k64_2) : Binds K D.fd ["members"] [] := D.F.binds (ps := ["members"]) fun _ _ _ _ _ _ us hl => match us, hl with | [_], _ => rfl
theorem ok_halves_k64_2 (hs : base.NoSeer) (ht : P.given.tree = none) (D_halves_k64_2 : Df K mg "halves" s_halves_k64_2) (n_len : mg "len" = none) : FnOk P w K mg base CX0 (41) D_halves_k64_2.f D_halves_k64_2.fd ["members"] (spOf K 1 d_halves_k64_2) :=
  ok_of D_halves_k64_2.F sc_halves_k64_2 (by decide) hs ht fun cdv A outer s H E c =>
    (bss_cons (bs_set 1 c.nd (be_lst (bl_cons (be_sl (be_var 0) bo_none (bo_some be_int)) bl_nil)))
    (bss_cons (bs_for c.pass c.calm (bi_seq (be_sl (be_var 0) (bo_some be_int) bo_none)) (bg_name 2 c.nd) (bss_fgt [2] (bss_one (bs_augL 1 c.nd (be_lcHN 1 3 [("some", 3)] c.calm c.nd (pv 1) (blk_at (N := ["members", "found", "member", "some"]) (sc := defScope s_halves_k64_2) rfl rfl (by decide +kernel)) (by decide) rfl (fun _ _ _ _ _ => pg_name (i := 3) c.nd rfl (.inl rfl)) (fun _ _ _ _ _ => (bts_one (bt_cmp ob_lt (be_b1 c_len rfl n_len bt_len (be_var 3)) (be_op (ob_div c.div.blk) (be_b1 c_len rfl n_len bt_len (be_var 0)) be_int)))) (fun _ _ _ _ _ => (be_op ob_add (be_var 3) (be_tup (bl_cons (be_var 2) bl_nil)))))))))
    (bss_one (bs_ret (be_lcHN 1 3 [("some", 3)] c.calm c.nd (pv 1) (blk_at (N := ["members", "found", "member", "some"]) (sc := defScope s_halves_k64_2) rfl rfl (by decide +kernel)) (by decide) rfl (fun _ _ _ _ _ => pg_name (i := 3) c.nd rfl (.inl rfl)) (fun _ _ _ _ _ => (bts_one (bt_cmp (ob_eq c.units) (be_b1 c_len rfl n_len bt_len (be_var 3)) (be_op (ob_div c.div.blk) (be_b1 c_len rfl n_len bt_len (be_var 0)) be_int)))) (fun _ _ _ _ _ => (be_var 3)))))))
abbrev s_unlike_places_k64_2 : Stmt := topS 13
theorem sc_unlike_places_k64_2 : FnScope ["members", "found", "first", "second", "one", "other", "member"] ["members"] (defScope s_unlike_places_k64_2) := ⟨rfl, rfl, rfl, by decide +kernel, rfl, by decide +kernel, by decide +kernel⟩
theorem bi_unlike_places_k64_2 (D : Df K mg "unlike_places" s_unlike_places_k64_2) : Binds K D.fd ["members"] [] := D.F.binds (ps := ["members"]) fun _ _ _ _ _ _ us hl => match us, hl with | [_], _ => rfl
theorem ok_unlike_places_k64_2 (hs : base.NoSeer) (ht : P.given.tree = none) (D_unlike_places_k64_2 : Df K mg "unlike_places" s_unlike_places_k64_2) (D_halves_k64_2 : Df K mg "halves" s_halves_k64_2) (G_halves_k64_2 : FnOk P w K mg base CX0 (41) D_halves_k64_2.f D_halves_k64_2.fd ["members"] (spOf K 1 d_halves_k64_2)) (n_len : mg "len" = none) (n_tuple : mg "tuple" = none) : ∀ n : Nat, FnOk P w K mg base CX0 (41 + n) D_unlike_places_k64_2.f D_unlike_places_k64_2.fd ["members"] (spOf K 1 (d_unlike_places_k64_2 n))
  | 0 => ok_none rfl
  | n + 1 => by
    have G_unlike_places_k64_2 := ok_unlike_places_k64_2 hs ht D_unlike_places_k64_2 D_halves_k64_2 G_halves_k64_2 n_len n_tuple n
    exact ok_of (k := 41 + n) D_unlike_places_k64_2.F sc_unlike_places_k64_2 (by omega) hs ht fun cdv A outer s H E c =>
    (bss_cons (bs_if (bt_cmp (ob_eq c.units) (be_b1 c_len rfl n_len bt_len (be_var 0)) be_int) (bss_one (bs_ret (be_lst (bl_cons (be_var 0) bl_nil)))) bss_nil)
    (bss_cons (bs_set 1 c.nd (be_lst bl_nil))
    (bss_cons (bs_for c.pass c.calm (bi_seq (be_call G_halves_k64_2 (c.room.mono (by omega)) rfl D_halves_k64_2.g D_halves_k64_2.F.kp (bi_halves_k64_2 D_halves_k64_2) (ba_v (be_var 0) ba_nil))) (bg_name 2 c.nd) (bss_fgt [2, 3] (bss_cons (bs_set 3 c.nd (be_t1 c_tuple rfl n_tuple bt_tuple (be_lcN 6 [("member", 6)] c.calm c.nd (bi_seq (be_frz (be_var 0))) (blk_at (N := ["members", "found", "first", "second", "one", "other", "member"]) (sc := defScope s_unlike_places_k64_2) rfl rfl (by decide +kernel)) (by decide) rfl (fun _ _ _ _ _ => pg_name (i := 6) c.nd rfl (.inl rfl)) (fun _ _ _ _ _ => (bts_one (bt_cmp (ob_notIn c.unitsD) (be_var 6) (be_var 2)))) (fun _ _ _ _ _ => (be_var 6)))))
    (bss_one (bs_augL 1 c.nd (be_lc2N 4 5 [("one", 4), ("other", 5)] c.calm c.nd (bi_seq (be_call G_unlike_places_k64_2 c.room rfl D_unlike_places_k64_2.g D_unlike_places_k64_2.F.kp (bi_unlike_places_k64_2 D_unlike_places_k64_2) (ba_v (be_var 2) ba_nil))) (blk_at (N := ["members", "found", "first", "second", "one", "other", "member"]) (sc := defScope s_unlike_places_k64_2) rfl rfl (by decide +kernel)) (by decide) (fun _ _ _ _ _ => pg_name (i := 4) c.nd rfl (.inl rfl)) (fun _ _ _ _ _ => bts_nil) (fun _ _ _ _ _ => (bi2_seq (be_call G_unlike_places_k64_2 c.room rfl D_unlike_places_k64_2.g D_unlike_places_k64_2.F.kp (bi_unlike_places_k64_2 D_unlike_places_k64_2) (ba_v (be_var 3) ba_nil)))) (fun _ _ _ _ _ => pg_name (i := 5) c.nd rfl (.inl rfl)) (fun _ _ _ _ _ => bts_nil) (fun _ _ _ _ _ => (be_op ob_add (be_var 4) (be_var 5)))))))))
    (bss_one (bs_ret (be_var 1))))))
abbrev s_best_places_k64 : Stmt := topS 14
theorem sc_best_places_k64 : FnScope ["chances", "player", "best", "places", "chance"] ["chances", "player"] (defScope s_best_places_k64) := ⟨rfl, rfl, rfl, by decide +kernel, rfl, by decide +kernel, by decide +kernel⟩
theorem bi_best_places_k64 (D : Df K mg "best_places" s_best_places_k64) : Binds K D.fd ["chances", "player"] [] := D.F.binds (ps := ["chances", "player"]) fun _ _ _ _ _ _ us hl => match us, hl with | [_, _], _ => rfl
theorem ok_best_places_k64 (hs : base.NoSeer) (ht : P.given.tree = none) (D_best_places_k64 : Df K mg "best_places" s_best_places_k64) (D_unlike_places_k64_2 : Df K mg "unlike_places" s_unlike_places_k64_2) (G_unlike_places_k64_2 : FnOk P w K mg base CX0 (81) D_unlike_places_k64_2.f D_unlike_places_k64_2.fd ["members"] (spOf K 1 (d_unlike_places_k64_2 40))) (D_to_win : Df K mg "to_win" s_to_win) (G_to_win : FnOk P w K mg base CX0 (84) D_to_win.f D_to_win.fd ["chances", "places"] (spOf K 2 d_to_win)) (D_is_less : Df K mg "is_less" s_is_less) (G_is_less : FnOk P w K mg base CX0 (41) D_is_less.f D_is_less.fd ["one", "other"] (spOf K 2 d_is_less)) (n_len : mg "len" = none) (n_range : mg "range" = none) (n_sorted : mg "sorted" = none) (n_tuple : mg "tuple" = none) : FnOk P w K mg base CX0 (85) D_best_places_k64.f D_best_places_k64.fd ["chances", "player"] (spOf K 2 d_best_places_k64) :=
  ok_of D_best_places_k64.F sc_best_places_k64 (by decide) hs ht fun cdv A outer s H E c =>
    (bss_cons (bs_set 2 c.nd be_non)
    (bss_cons (bs_for c.pass c.calm (bi_seq (be_b1 c_sortedT rfl n_sorted bt_sorted (be_call G_unlike_places_k64_2 (c.room.mono (by omega)) rfl D_unlike_places_k64_2.g D_unlike_places_k64_2.F.kp (bi_unlike_places_k64_2 D_unlike_places_k64_2) (ba_v (be_tupR1 c.calm rfl n_tuple rfl n_range (be_b1 c_len rfl n_len bt_len (be_var 0))) ba_nil)))) (bg_name 3 c.nd) (bss_fgt [3, 4] (bss_cons (bs_set 4 c.nd (be_ix (be_call G_to_win (c.room.mono (by omega)) rfl D_to_win.g D_to_win.F.kp (bi_to_win D_to_win) (ba_v (be_var 0) (ba_v (be_var 3) ba_nil))) (be_var 1)))
    (bss_one (bs_if (bt_w (bw_or (bt_cmp ob_is (be_var 2) be_non) (bw_or1 (bt_tru (be_call G_is_less (c.room.mono (by omega)) rfl D_is_less.g D_is_less.F.kp (bi_is_less D_is_less) (ba_v (be_ix (be_var 2) be_int) (ba_v (be_var 4) ba_nil))))))) (bss_one (bs_set 2 c.nd (be_tup (bl_cons (be_var 4) (bl_cons (be_var 3) bl_nil))))) bss_nil)))))
    (bss_one (bs_ret (be_var 2)))))
abbrev s_law_draws : Stmt := topS 16
theorem sc_law_draws : FnScope ["script", "many", "cells", "rest", "draws", "k", "at", "once", "cell"] ["script", "many"] (defScope s_law_draws) := ⟨rfl, rfl, rfl, by decide +kernel, rfl, by decide +kernel, by decide +kernel⟩
theorem bi_law_draws (D : Df K mg "_law_draws" s_law_draws) : Binds K D.fd ["script", "many"] [] := D.F.binds (ps := ["script", "many"]) fun _ _ _ _ _ _ us hl => match us, hl with | [_, _], _ => rfl
theorem ok_law_draws (hs : base.NoSeer) (ht : P.given.tree = none) (D_law_draws : Df K mg "_law_draws" s_law_draws) (n_int : mg "int" = none) (n_len : mg "len" = none) (n_list : mg "list" = none) (n_range : mg "range" = none) : FnOk P w K mg base CX0 (41) D_law_draws.f D_law_draws.fd ["script", "many"] (spOf K 2 d_law_draws) :=
  ok_of D_law_draws.F sc_law_draws (by decide) hs ht fun cdv A outer s H E c =>
    (bss_cons (bs_setLcN 2 8 [("cell", 8)] c.calm c.nd rfl rfl (bi_seq (be_frz (be_var 0))) (blk_at (N := ["script", "many", "cells", "rest", "draws", "k", "at", "once", "cell"]) (sc := defScope s_law_draws) rfl rfl (by decide +kernel)) (by decide) rfl (sw_true rfl rfl rfl (by decide +kernel)) (fun _ _ _ _ _ => pg_name (i := 8) c.nd rfl (.inl rfl)) (fun _ _ _ _ _ => bts_nil) (fun _ _ _ _ _ => (be_t1 c_int rfl n_int bt_int (be_var 8))))
    (bss_cons (bs_if (bt_cmp (ob_eq c.units) (be_b1 c_len rfl n_len bt_len (be_var 2)) be_int) (bss_one (bs_expr (be_append 2 (pv 2) be_int))) bss_nil)
    (bss_cons (bs_set 3 c.nd (be_t1 c_list rfl n_list bt_list (be_var 2)))
    (bss_cons (bs_set 4 c.nd (be_lst bl_nil))
    (bss_cons (bs_for c.pass c.calm (bi_rng1 rfl n_range (be_var 1)) (bg_name 5 c.nd) (bss_fgt [5, 6, 7] (bss_cons (bs_set 6 c.nd (be_op ob_mod (be_var 5) (be_b1 c_len rfl n_len bt_len (be_var 2))))
    (bss_one (bs_if (bt_cmp ob_ge (be_ix (be_var 2) (be_var 6)) (be_op ob_pow be_int be_int)) (bss_cons (bs_expr (be_append 4 (pv 4) (be_op ob_mod (be_t1 c_int rfl n_int bt_int (be_ix (be_var 3) (be_var 6))) be_int)))
    (bss_one (bs_setIx 3 (pv 3) (be_var 6) (be_op (ob_div c.div) (be_ix (be_var 3) (be_var 6)) be_int)))) (bss_cons (bs_set 7 c.nd (be_op ob_mod (be_t1 c_int rfl n_int bt_int (be_op ob_add (be_op ob_add (be_op ob_mul (be_ix (be_var 2) (be_var 6)) be_int) (be_op ob_mul (be_var 5) be_int)) be_int)) be_int))
    (bss_one (bs_expr (be_append 4 (pv 4) (be_op ob_mod (be_t1 c_int rfl n_int bt_int (be_op ob_add (be_op ob_add (be_op ob_mul (be_var 7) (be_var 7)) (be_op ob_mul be_int (be_var 7))) (be_var 5))) be_int))))))))))
    (bss_cons (bs_expr (be_reverse 4 (pv 4)))
    (bss_one (bs_ret (be_var 4)))))))))
abbrev s_law_take : Stmt := topS 17
theorem sc_law_take : FnScope ["draws", "many"] ["draws", "many"] (defScope s_law_take) := ⟨rfl, rfl, rfl, by decide +kernel, rfl, by decide +kernel, by decide +kernel⟩
theorem bi_law_take (D : Df K mg "_law_take" s_law_take) : Binds K D.fd ["draws", "many"] [] := D.F.binds (ps := ["draws", "many"]) fun _ _ _ _ _ _ us hl => match us, hl with | [_, _], _ => rfl
theorem ok_law_take (hs : base.NoSeer) (ht : P.given.tree = none) (D_law_take : Df K mg "_law_take" s_law_take) (n_int : mg "int" = none) (n_len : mg "len" = none) : FnOk P w K mg base CX0 (41) D_law_take.f D_law_take.fd ["draws", "many"] (spOf K 2 d_law_take) :=
  ok_of D_law_take.F sc_law_take (by decide) hs ht fun cdv A outer s H E c =>
    (bss_cons (bs_if (bt_cmp (ob_eq c.units) (be_b1 c_len rfl n_len bt_len (be_var 0)) be_int) (bss_one (bs_ret be_int)) bss_nil)
    (bss_one (bs_ret (be_op ob_mod (be_t1 c_int rfl n_int bt_int (be_pop 0 (pv 0))) (be_var 1)))))
abbrev s_law_cell : Stmt := topS 18
theorem sc_law_cell : FnScope ["script", "at"] ["script", "at"] (defScope s_law_cell) := ⟨rfl, rfl, rfl, by decide +kernel, rfl, by decide +kernel, by decide +kernel⟩
theorem bi_law_cell (D : Df K mg "_law_cell" s_law_cell) : Binds K D.fd ["script", "at"] [] := D.F.binds (ps := ["script", "at"]) fun _ _ _ _ _ _ us hl => match us, hl with | [_, _], _ => rfl
theorem ok_law_cell (hs : base.NoSeer) (ht : P.given.tree = none) (D_law_cell : Df K mg "_law_cell" s_law_cell) (n_int : mg "int" = none) (n_len : mg "len" = none) : FnOk P w K mg base CX0 (41) D_law_cell.f D_law_cell.fd ["script", "at"] (spOf K 2 d_law_cell) :=
  ok_of D_law_cell.F sc_law_cell (by decide) hs ht fun cdv A outer s H E c =>
    (bss_cons (bs_if (bt_cmp (ob_eq c.units) (be_b1 c_len rfl n_len bt_len (be_var 0)) be_int) (bss_one (bs_ret be_int)) bss_nil)
    (bss_one (bs_ret (be_t1 c_int rfl n_int bt_int (be_ix (be_var 0) (be_op ob_mod (be_t1 c_int rfl n_int bt_int (be_var 1)) (be_b1 c_len rfl n_len bt_len (be_var 0))))))))
abbrev s_law_same : Stmt := topS 19
theorem sc_law_same : FnScope ["actual", "due", "k"] ["actual", "due"] (defScope s_law_same) := ⟨rfl, rfl, rfl, by decide +kernel, rfl, by decide +kernel, by decide +kernel⟩
theorem bi_law_same (D : Df K mg "_law_same" s_law_same) : Binds K D.fd ["actual", "due"] [] := D.F.binds (ps := ["actual", "due"]) fun _ _ _ _ _ _ us hl => match us, hl with | [_, _], _ => rfl
theorem ok_law_same (hs : base.NoSeer) (ht : P.given.tree = none) (D_law_same : Df K mg "_law_same" s_law_same) (n_bool : mg "bool" = none) (n_int : mg "int" = none) (n_isinstance : mg "isinstance" = none) (n_len : mg "len" = none) (n_range : mg "range" = none) (n_str : mg "str" = none) (n_tuple : mg "tuple" = none) : ∀ n : Nat, FnOk P w K mg base CX0 (40 + n) D_law_same.f D_law_same.fd ["actual", "due"] (spOf K 2 (d_law_same n))
  | 0 => ok_none rfl
  | n + 1 => by
    have G_law_same := ok_law_same hs ht D_law_same n_bool n_int n_isinstance n_len n_range n_str n_tuple n
    exact ok_of (k := 40 + n) D_law_same.F sc_law_same (by omega) hs ht fun cdv A outer s H E c =>
    (bss_cons (bs_if (bt_cmp ob_is (be_var 1) be_non) (bss_one (bs_ret (be_cmp ob_is (be_var 0) be_non))) bss_nil)
    (bss_cons (bs_if (bt_tru (be_isi .bool rfl n_isinstance bt_isinstance rfl n_bool bt_bool (be_var 1))) (bss_one (bs_ret (be_and (be_isi .bool rfl n_isinstance bt_isinstance rfl n_bool bt_bool (be_var 0)) (be_one (be_cmp (ob_eq c.units) (be_var 0) (be_var 1)))))) bss_nil)
    (bss_cons (bs_if (bt_tru (be_isi .int rfl n_isinstance bt_isinstance rfl n_int bt_int (be_var 1))) (bss_one (bs_ret (be_and (be_isi .int rfl n_isinstance bt_isinstance rfl n_int bt_int (be_var 0)) (be_and (be_not (be_isi .bool rfl n_isinstance bt_isinstance rfl n_bool bt_bool (be_var 0))) (be_one (be_cmp (ob_eq c.units) (be_var 0) (be_var 1))))))) bss_nil)
    (bss_cons (bs_if (bt_tru (be_isi .str rfl n_isinstance bt_isinstance rfl n_str bt_str (be_var 1))) (bss_one (bs_ret (be_and (be_isi .str rfl n_isinstance bt_isinstance rfl n_str bt_str (be_var 0)) (be_one (be_cmp (ob_eq c.units) (be_var 0) (be_var 1)))))) bss_nil)
    (bss_cons (bs_if (bt_w (bw_or (bt_not (bt_tru (be_isi .tuple rfl n_isinstance bt_isinstance rfl n_tuple bt_tuple (be_var 0)))) (bw_or1 (bt_cmp (ob_ne c.units) (be_b1 c_len rfl n_len bt_len (be_var 0)) (be_b1 c_len rfl n_len bt_len (be_var 1)))))) (bss_one (bs_ret be_bl)) bss_nil)
    (bss_cons (bs_for c.pass c.calm (bi_rng1 rfl n_range (be_b1 c_len rfl n_len bt_len (be_var 1))) (bg_name 2 c.nd) (bss_fgt [2] (bss_one (bs_if (bt_not (bt_tru (be_call G_law_same c.room rfl D_law_same.g D_law_same.F.kp (bi_law_same D_law_same) (ba_v (be_ix (be_var 0) (be_var 2)) (ba_v (be_ix (be_var 1) (be_var 2)) ba_nil))))) (bss_one (bs_ret be_bl)) bss_nil))))
    (bss_one (bs_ret be_bl))))))))
abbrev s_law_common : Stmt := topS 20
theorem sc_law_common : FnScope ["one", "other"] ["one", "other"] (defScope s_law_common) := ⟨rfl, rfl, rfl, by decide +kernel, rfl, by decide +kernel, by decide +kernel⟩
theorem bi_law_common (D : Df K mg "_law_common" s_law_common) : Binds K D.fd ["one", "other"] [] := D.F.binds (ps := ["one", "other"]) fun _ _ _ _ _ _ us hl => match us, hl with | [_, _], _ => rfl
theorem ok_law_common (hs : base.NoSeer) (ht : P.given.tree = none) (D_law_common : Df K mg "_law_common" s_law_common) (n_abs : mg "abs" = none) (n_int : mg "int" = none) : FnOk P w K mg base CX0 (41) D_law_common.f D_law_common.fd ["one", "other"] (spOf K 2 d_law_common) :=
  ok_of D_law_common.F sc_law_common (by decide) hs ht fun cdv A outer s H E c =>
    (bss_cons (bs_par 0 1 c.calm c.nd (be_b1 c_abs rfl n_abs bt_abs (be_var 0)) (be_b1 c_abs rfl n_abs bt_abs (be_var 1)))
    (bss_cons (bs_fgt [1] (bs_while c.pass (bt_cmp ob_gt (be_var 1) be_int) (bss_fgt [] (bss_one (bs_par 0 1 c.calm c.nd (be_var 1) (be_op ob_mod (be_t1 c_int rfl n_int bt_int (be_var 0)) (be_var 1)))))))
    (bss_one (bs_ret (be_var 0)))))
abbrev s_law_fraction : Stmt := topS 21
theorem sc_law_fraction : FnScope ["n", "d", "common"] ["n", "d"] (defScope s_law_fraction) := ⟨rfl, rfl, rfl, by decide +kernel, rfl, by decide +kernel, by decide +kernel⟩
theorem bi_law_fraction (D : Df K mg "_law_fraction" s_law_fraction) : Binds K D.fd ["n", "d"] [] := D.F.binds (ps := ["n", "d"]) fun _ _ _ _ _ _ us hl => match us, hl with | [_, _], _ => rfl
theorem ok_law_fraction (hs : base.NoSeer) (ht : P.given.tree = none) (D_law_fraction : Df K mg "_law_fraction" s_law_fraction) (D_law_common : Df K mg "_law_common" s_law_common) (G_law_common : FnOk P w K mg base CX0 (41) D_law_common.f D_law_common.fd ["one", "other"] (spOf K 2 d_law_common)) : FnOk P w K mg base CX0 (42) D_law_fraction.f D_law_fraction.fd ["n", "d"] (spOf K 2 d_law_fraction) :=
  ok_of D_law_fraction.F sc_law_fraction (by decide) hs ht fun cdv A outer s H E c =>
    (bss_cons (bs_set 2 c.nd (be_call G_law_common (c.room.mono (by omega)) rfl D_law_common.g D_law_common.F.kp (bi_law_common D_law_common) (ba_v (be_var 0) (ba_v (be_var 1) ba_nil))))
    (bss_cons (bs_if (bt_cmp ob_lt (be_var 1) be_int) (bss_one (bs_set 2 c.nd (be_neg (be_var 2)))) bss_nil)
    (bss_one (bs_ret (be_tup (bl_cons (be_op (ob_div c.div) (be_var 0) (be_var 2)) (bl_cons (be_op (ob_div c.div) (be_var 1) (be_var 2)) bl_nil)))))))
abbrev s_law_ladder : Stmt := topS 22
theorem sc_law_ladder : FnScope ["draws", "many", "d", "table", "one", "other", "part", "row"] ["draws", "many", "d"] (defScope s_law_ladder) := ⟨rfl, rfl, rfl, by decide +kernel, rfl, by decide +kernel, by decide +kernel⟩
theorem bi_law_ladder (D : Df K mg "_law_ladder" s_law_ladder) : Binds K D.fd ["draws", "many", "d"] [] := D.F.binds (ps := ["draws", "many", "d"]) fun _ _ _ _ _ _ us hl => match us, hl with | [_, _, _], _ => rfl
theorem ok_law_ladder (hs : base.NoSeer) (ht : P.given.tree = none) (D_law_ladder : Df K mg "_law_ladder" s_law_ladder) (D_law_fraction : Df K mg "_law_fraction" s_law_fraction) (G_law_fraction : FnOk P w K mg base CX0 (42) D_law_fraction.f D_law_fraction.fd ["n", "d"] (spOf K 2 d_law_fraction)) (D_law_take : Df K mg "_law_take" s_law_take) (G_law_take : FnOk P w K mg base CX0 (41) D_law_take.f D_law_take.fd ["draws", "many"] (spOf K 2 d_law_take)) (n_range : mg "range" = none) (n_tuple : mg "tuple" = none) : FnOk P w K mg base CX0 (43) D_law_ladder.f D_law_ladder.fd ["draws", "many", "d"] (spOf K 3 d_law_ladder) :=
  ok_of D_law_ladder.F sc_law_ladder (by decide) hs ht fun cdv A outer s H E c =>
    (bss_lad (t := 3) (iO := 4) (iN := 1) (own := [("one", 4)]) c.calm c.nd rfl n_range rfl rfl (be_var 1) (blk_at (N := ["draws", "many", "d", "table", "one", "other", "part", "row"]) (sc := defScope s_law_ladder) rfl rfl (by decide +kernel)) (by decide) rfl (sw_true rfl rfl rfl (by decide +kernel)) (fun _ _ _ _ _ => pg_name (i := 4) c.nd rfl (.inl rfl)) (fun _ _ _ _ _ => (be_lcN 5 [("other", 5)] c.calm c.nd (bi_rng1 rfl n_range (be_var 1)) (blk_in (N := ["draws", "many", "d", "table", "one", "other", "part", "row"]) (sc0 := defScope s_law_ladder) rfl rfl (by decide +kernel)) (by decide) rfl (fun _ _ _ _ _ => pg_name (i := 5) c.nd rfl (.inl rfl)) (fun _ _ _ _ _ => bts_nil) (fun _ _ _ _ _ => (be_tup (bl_cons be_int (bl_cons be_int bl_nil)))))) (bt2_for (t := 3) 4 c.pass c.calm c.nd rfl n_range (be_var 1) (bt2_one (bt2_for (t := 3) 5 c.pass c.calm c.nd rfl n_range (be_var 4) (bt2_cons (bt2_asg (t := 3) 6 c.nd (be_ix (be_lst (bl_cons (be_call G_law_take (c.room.mono (by omega)) rfl D_law_take.g D_law_take.F.kp (bi_law_take D_law_take) (ba_r 0 (pv 0) (ba_v (be_op ob_add (be_var 2) be_int) ba_nil))) (bl_cons (be_call G_law_take (c.room.mono (by omega)) rfl D_law_take.g D_law_take.F.kp (bi_law_take D_law_take) (ba_r 0 (pv 0) (ba_v (be_op ob_add (be_var 2) be_int) ba_nil))) (bl_cons (be_op (ob_div c.div) (be_var 2) be_int) (bl_cons (be_var 2) (bl_cons be_int bl_nil)))))) (be_call G_law_take (c.room.mono (by omega)) rfl D_law_take.g D_law_take.F.kp (bi_law_take D_law_take) (ba_r 0 (pv 0) (ba_v be_int ba_nil))))) (bt2_cons (bt2_set (t := 3) 4 5 (pv 3) (pv 4) (pv 5) (fun _ _ => rfl) (be_call G_law_fraction (c.room.mono (by omega)) rfl D_law_fraction.g D_law_fraction.F.kp (bi_law_fraction D_law_fraction) (ba_v (be_var 6) (ba_v (be_var 2) ba_nil)))) (bt2_one (bt2_set (t := 3) 5 4 (pv 3) (pv 5) (pv 4) (fun _ _ => rfl) (be_call G_law_fraction (c.room.mono (by omega)) rfl D_law_fraction.g D_law_fraction.F.kp (bi_law_fraction D_law_fraction) (ba_v (be_op ob_sub (be_var 2) (be_var 6)) (ba_v (be_var 2) ba_nil))))))))))
    (bss_one (bs_ret (be_t1 c_tuple rfl n_tuple bt_tuple (be_lcN 7 [("row", 7)] c.calm c.nd (bi_seq (be_frz (be_var 3))) (blk_at (N := ["draws", "many", "d", "table", "one", "other", "part", "row"]) (sc := defScope s_law_ladder) rfl rfl (by decide +kernel)) (by decide) rfl (fun _ _ _ _ _ => pg_name (i := 7) c.nd rfl (.inl rfl)) (fun _ _ _ _ _ => bts_nil) (fun _ _ _ _ _ => (be_t1 c_tuple rfl n_tuple bt_tuple (be_var 7))))))))
abbrev s_law_met : Stmt := topS 25
theorem sc_law_met : FnScope ["chances", "one", "other", "d", "left", "top", "found", "side", "against", "right", "more", "player", "won", "rival"] ["chances", "one", "other"] (defScope s_law_met) := ⟨rfl, rfl, rfl, by decide +kernel, rfl, by decide +kernel, by decide +kernel⟩
theorem bi_law_met (D : Df K mg "_law_met" s_law_met) : Binds K D.fd ["chances", "one", "other"] [] := D.F.binds (ps := ["chances", "one", "other"]) fun _ _ _ _ _ _ us hl => match us, hl with | [_, _, _], _ => rfl
theorem ok_law_met (hs : base.NoSeer) (ht : P.given.tree = none) (D_law_met : Df K mg "_law_met" s_law_met) (D_law_common : Df K mg "_law_common" s_law_common) (G_law_common : FnOk P w K mg base CX0 (41) D_law_common.f D_law_common.fd ["one", "other"] (spOf K 2 d_law_common)) : FnOk P w K mg base CX0 (42) D_law_met.f D_law_met.fd ["chances", "one", "other"] (spOf K 3 d_law_met) :=
  ok_of D_law_met.F sc_law_met (by decide) hs ht fun cdv A outer s H E c =>
    (bss_cons (bs_set 3 c.nd be_int)
    (bss_cons (bs_for c.pass c.calm (bi_seq (be_ix (be_var 1) be_int)) (bg_tup c.calm (bgs_cons 4 c.nd (bgs_cons 5 c.nd bgs_nil))) (bss_fgt [4, 5, 9, 10] (bss_one (bs_for c.pass c.calm (bi_seq (be_ix (be_var 2) be_int)) (bg_tup c.calm (bgs_cons 9 c.nd (bgs_cons 10 c.nd bgs_nil))) (bss_fgt [9, 10] (bss_one (bs_set 3 c.nd (be_op (ob_div c.div) (be_op ob_mul (be_var 3) (be_ix (be_ix (be_ix (be_var 0) (be_var 4)) (be_var 9)) be_int)) (be_call G_law_common (c.room.mono (by omega)) rfl D_law_common.g D_law_common.F.kp (bi_law_common D_law_common) (ba_v (be_var 3) (ba_v (be_ix (be_ix (be_ix (be_var 0) (be_var 4)) (be_var 9)) be_int) ba_nil)))))))))))
    (bss_cons (bs_set 6 c.nd (be_lst bl_nil))
    (bss_cons (bs_for c.pass c.calm (bi_seq (be_lst (bl_cons (be_tup (bl_cons (be_var 1) (bl_cons (be_var 2) bl_nil))) (bl_cons (be_tup (bl_cons (be_var 2) (bl_cons (be_var 1) bl_nil))) bl_nil)))) (bg_tup c.calm (bgs_cons 7 c.nd (bgs_cons 8 c.nd bgs_nil))) (bss_fgt [5, 7, 8, 10, 11, 12, 13] (bss_one (bs_for c.pass c.calm (bi_seq (be_ix (be_var 7) be_int)) (bg_tup c.calm (bgs_cons 11 c.nd (bgs_cons 5 c.nd bgs_nil))) (bss_fgt [5, 10, 11, 12, 13] (bss_cons (bs_set 12 c.nd be_int)
    (bss_cons (bs_for c.pass c.calm (bi_seq (be_ix (be_var 8) be_int)) (bg_tup c.calm (bgs_cons 13 c.nd (bgs_cons 10 c.nd bgs_nil))) (bss_fgt [10, 13] (bss_one (bs_set 12 c.nd (be_op ob_add (be_var 12) (be_op ob_mul (be_op ob_mul (be_var 10) (be_ix (be_ix (be_ix (be_var 0) (be_var 11)) (be_var 13)) be_int)) (be_op (ob_div c.div) (be_var 3) (be_ix (be_ix (be_ix (be_var 0) (be_var 11)) (be_var 13)) be_int))))))))
    (bss_one (bs_expr (be_append 6 (pv 6) (be_tup (bl_cons (be_var 11) (bl_cons (be_op ob_mul (be_var 5) (be_var 12)) bl_nil)))))))))))))
    (bss_one (bs_ret (be_tup (bl_cons (be_var 6) (bl_cons (be_op ob_mul (be_op ob_mul (be_ix (be_var 1) be_int) (be_ix (be_var 2) be_int)) (be_var 3)) bl_nil)))))))))
abbrev s_law_winners : Stmt := topS 24
theorem sc_law_winners : FnScope ["chances", "places", "blocks", "k", "later", "at", "player"] ["chances", "places"] (defScope s_law_winners) := ⟨rfl, rfl, rfl, by decide +kernel, rfl, by decide +kernel, by decide +kernel⟩
theorem bi_law_winners (D : Df K mg "_law_winners" s_law_winners) : Binds K D.fd ["chances", "places"] [] := D.F.binds (ps := ["chances", "places"]) fun _ _ _ _ _ _ us hl => match us, hl with | [_, _], _ => rfl
theorem ok_law_winners (hs : base.NoSeer) (ht : P.given.tree = none) (D_law_winners : Df K mg "_law_winners" s_law_winners) (D_law_met : Df K mg "_law_met" s_law_met) (G_law_met : FnOk P w K mg base CX0 (42) D_law_met.f D_law_met.fd ["chances", "one", "other"] (spOf K 3 d_law_met)) (n_len : mg "len" = none) (n_range : mg "range" = none) : FnOk P w K mg base CX0 (43) D_law_winners.f D_law_winners.fd ["chances", "places"] (spOf K 2 d_law_winners) :=
  ok_of D_law_winners.F sc_law_winners (by decide) hs ht fun cdv A outer s H E c =>
    (bss_cons (bs_setLcN 2 6 [("player", 6)] c.calm c.nd rfl rfl (bi_seq (be_frz (be_var 1))) (blk_at (N := ["chances", "places", "blocks", "k", "later", "at", "player"]) (sc := defScope s_law_winners) rfl rfl (by decide +kernel)) (by decide) rfl (sw_true rfl rfl rfl (by decide +kernel)) (fun _ _ _ _ _ => pg_name (i := 6) c.nd rfl (.inl rfl)) (fun _ _ _ _ _ => bts_nil) (fun _ _ _ _ _ => (be_tup (bl_cons (be_lst (bl_cons (be_tup (bl_cons (be_var 6) (bl_cons be_int bl_nil))) bl_nil)) (bl_cons be_int bl_nil)))))
    (bss_cons (bs_for c.pass c.calm (bi_rng1 rfl n_range be_int) (bg_name 3 c.nd) (bss_fgt [3, 4, 5] (bss_one (bs_if (bt_cmp ob_gt (be_b1 c_len rfl n_len bt_len (be_var 2)) be_int) (bss_cons (bs_set 4 c.nd (be_lst bl_nil))
    (bss_cons (bs_for c.pass c.calm (bi_rng1 rfl n_range (be_op (ob_div c.div) (be_b1 c_len rfl n_len bt_len (be_var 2)) be_int)) (bg_name 5 c.nd) (bss_fgt [5] (bss_one (bs_expr (be_append 4 (pv 4) (be_call G_law_met (c.room.mono (by omega)) rfl D_law_met.g D_law_met.F.kp (bi_law_met D_law_met) (ba_v (be_var 0) (ba_v (be_ix (be_var 2) (be_op ob_mul be_int (be_var 5))) (ba_v (be_ix (be_var 2) (be_op ob_add (be_op ob_mul be_int (be_var 5)) be_int)) ba_nil)))))))))
    (bss_one (bs_set 2 c.nd (be_var 4))))) bss_nil))))
    (bss_one (bs_ret (be_ix (be_var 2) be_int)))))
abbrev s_law_orders : Stmt := topS 26
theorem sc_law_orders : FnScope ["many", "rows", "k", "longer", "row", "number"] ["many"] (defScope s_law_orders) := ⟨rfl, rfl, rfl, by decide +kernel, rfl, by decide +kernel, by decide +kernel⟩
theorem bi_law_orders (D : Df K mg "_law_orders" s_law_orders) : Binds K D.fd ["many"] [] := D.F.binds (ps := ["many"]) fun _ _ _ _ _ _ us hl => match us, hl with | [_], _ => rfl
theorem ok_law_orders (hs : base.NoSeer) (ht : P.given.tree = none) (D_law_orders : Df K mg "_law_orders" s_law_orders) (n_range : mg "range" = none) : FnOk P w K mg base CX0 (41) D_law_orders.f D_law_orders.fd ["many"] (spOf K 1 d_law_orders) :=
  ok_of D_law_orders.F sc_law_orders (by decide) hs ht fun cdv A outer s H E c =>
    (bss_cons (bs_set 1 c.nd (be_lst (bl_cons (be_tup bl_nil) bl_nil)))
    (bss_cons (bs_for c.pass c.calm (bi_rng1 rfl n_range (be_var 0)) (bg_name 2 c.nd) (bss_fgt [2, 3, 4, 5] (bss_cons (bs_set 3 c.nd (be_lst bl_nil))
    (bss_cons (bs_for c.pass c.calm (bi_seq (be_frz (be_var 1))) (bg_name 4 c.nd) (bss_fgt [4, 5] (bss_one (bs_for c.pass c.calm (bi_rng1 rfl n_range (be_var 0)) (bg_name 5 c.nd) (bss_fgt [5] (bss_one (bs_if (bt_cmp (ob_notIn c.unitsD) (be_var 5) (be_var 4)) (bss_one (bs_expr (be_append 3 (pv 3) (be_op ob_add (be_var 4) (be_tup (bl_cons (be_var 5) bl_nil)))))) bss_nil)))))))
    (bss_one (bs_set 1 c.nd (be_var 3)))))))
    (bss_one (bs_ret (be_var 1)))))
abbrev s_law_best_of_all : Stmt := topS 27
theorem sc_law_best_of_all : FnScope ["chances", "player", "best", "places", "told", "d", "top", "pair"] ["chances", "player"] (defScope s_law_best_of_all) := ⟨rfl, rfl, rfl, by decide +kernel, rfl, by decide +kernel, by decide +kernel⟩
theorem bi_law_best_of_all (D : Df K mg "_law_best_of_all" s_law_best_of_all) : Binds K D.fd ["chances", "player"] [] := D.F.binds (ps := ["chances", "player"]) fun _ _ _ _ _ _ us hl => match us, hl with | [_, _], _ => rfl
theorem ok_law_best_of_all (hs : base.NoSeer) (ht : P.given.tree = none) (D_law_best_of_all : Df K mg "_law_best_of_all" s_law_best_of_all) (D_law_orders : Df K mg "_law_orders" s_law_orders) (G_law_orders : FnOk P w K mg base CX0 (41) D_law_orders.f D_law_orders.fd ["many"] (spOf K 1 d_law_orders)) (D_law_winners : Df K mg "_law_winners" s_law_winners) (G_law_winners : FnOk P w K mg base CX0 (43) D_law_winners.f D_law_winners.fd ["chances", "places"] (spOf K 2 d_law_winners)) (D_law_fraction : Df K mg "_law_fraction" s_law_fraction) (G_law_fraction : FnOk P w K mg base CX0 (42) D_law_fraction.f D_law_fraction.fd ["n", "d"] (spOf K 2 d_law_fraction)) (n_len : mg "len" = none) (n_sum : mg "sum" = none) : FnOk P w K mg base CX0 (44) D_law_best_of_all.f D_law_best_of_all.fd ["chances", "player"] (spOf K 2 d_law_best_of_all) :=
  ok_of D_law_best_of_all.F sc_law_best_of_all (by decide) hs ht fun cdv A outer s H E c =>
    (bss_cons (bs_set 2 c.nd be_non)
    (bss_cons (bs_for c.pass c.calm (bi_seq (be_call G_law_orders (c.room.mono (by omega)) rfl D_law_orders.g D_law_orders.F.kp (bi_law_orders D_law_orders) (ba_v (be_b1 c_len rfl n_len bt_len (be_var 0)) ba_nil))) (bg_name 3 c.nd) (bss_fgt [3, 4, 5, 6] (bss_cons (bs_asg (be_call G_law_winners (c.room.mono (by omega)) rfl D_law_winners.g D_law_winners.F.kp (bi_law_winners D_law_winners) (ba_v (be_var 0) (ba_v (be_var 3) ba_nil))) (bg_tup c.calm (bgs_cons 4 c.nd (bgs_cons 5 c.nd bgs_nil))))
    (bss_cons (bs_set 6 c.nd (be_b1 (c_sum c.calm) rfl n_sum bt_sum (be_lcN 7 [("pair", 7)] c.calm c.nd (bi_seq (be_frz (be_var 4))) (blk_at (N := ["chances", "player", "best", "places", "told", "d", "top", "pair"]) (sc := defScope s_law_best_of_all) rfl rfl (by decide +kernel)) (by decide) rfl (fun _ _ _ _ _ => pg_name (i := 7) c.nd rfl (.inl rfl)) (fun _ _ _ _ _ => (bts_one (bt_cmp (ob_eq c.units) (be_ix (be_var 7) be_int) (be_var 1)))) (fun _ _ _ _ _ => (be_ix (be_var 7) be_int)))))
    (bss_one (bs_if (bt_w (bw_or (bt_cmp ob_is (be_var 2) be_non) (bw_or1 (bt_cmp ob_gt (be_op ob_mul (be_var 6) (be_ix (be_var 2) be_int)) (be_op ob_mul (be_ix (be_var 2) be_int) (be_var 5)))))) (bss_one (bs_set 2 c.nd (be_tup (bl_cons (be_var 6) (bl_cons (be_var 5) (bl_cons (be_var 3) bl_nil)))))) bss_nil))))))
    (bss_one (bs_ret (be_tup (bl_cons (be_call G_law_fraction (c.room.mono (by omega)) rfl D_law_fraction.g D_law_fraction.F.kp (bi_law_fraction D_law_fraction) (ba_v (be_ix (be_var 2) be_int) (ba_v (be_ix (be_var 2) be_int) ba_nil))) (bl_cons (be_ix (be_var 2) be_int) bl_nil)))))))
abbrev s_law_fours : Stmt := topS 28
theorem sc_law_fours : FnScope ["members", "a", "b", "c", "d"] ["members"] (defScope s_law_fours) := ⟨rfl, rfl, rfl, by decide +kernel, rfl, by decide +kernel, by decide +kernel⟩
theorem bi_law_fours (D : Df K mg "_law_fours" s_law_fours) : Binds K D.fd ["members"] [] := D.F.binds (ps := ["members"]) fun _ _ _ _ _ _ us hl => match us, hl with | [_], _ => rfl
theorem ok_law_fours (hs : base.NoSeer) (ht : P.given.tree = none) (D_law_fours : Df K mg "_law_fours" s_law_fours) : FnOk P w K mg base CX0 (41) D_law_fours.f D_law_fours.fd ["members"] (spOf K 1 d_law_fours) :=
  ok_of D_law_fours.F sc_law_fours (by decide) hs ht fun cdv A outer s H E c =>
    (bss_cons (bs_asg (be_var 0) (bg_tup c.calm (bgs_cons 1 c.nd (bgs_cons 2 c.nd (bgs_cons 3 c.nd (bgs_cons 4 c.nd bgs_nil))))))
    (bss_one (bs_ret (be_lst (bl_cons (be_tup (bl_cons (be_var 1) (bl_cons (be_var 2) (bl_cons (be_var 3) (bl_cons (be_var 4) bl_nil))))) (bl_cons (be_tup (bl_cons (be_var 1) (bl_cons (be_var 3) (bl_cons (be_var 2) (bl_cons (be_var 4) bl_nil))))) (bl_cons (be_tup (bl_cons (be_var 1) (bl_cons (be_var 4) (bl_cons (be_var 2) (bl_cons (be_var 3) bl_nil))))) bl_nil)))))))
abbrev s_law_four_chances : Stmt := topS 29
theorem sc_law_four_chances : FnScope ["parts", "places", "found", "at", "one", "rival", "others", "first", "second"] ["parts", "places"] (defScope s_law_four_chances) := ⟨rfl, rfl, rfl, by decide +kernel, rfl, by decide +kernel, by decide +kernel⟩
theorem bi_law_four_chances (D : Df K mg "_law_four_chances" s_law_four_chances) : Binds K D.fd ["parts", "places"] [] := D.F.binds (ps := ["parts", "places"]) fun _ _ _ _ _ _ us hl => match us, hl with | [_, _], _ => rfl
theorem ok_law_four_chances (hs : base.NoSeer) (ht : P.given.tree = none) (D_law_four_chances : Df K mg "_law_four_chances" s_law_four_chances) (n_range : mg "range" = none) : FnOk P w K mg base CX0 (41) D_law_four_chances.f D_law_four_chances.fd ["parts", "places"] (spOf K 2 d_law_four_chances) :=
  ok_of D_law_four_chances.F sc_law_four_chances (by decide) hs ht fun cdv A outer s H E c =>
    (bss_cons (bs_set 2 c.nd be_dct0)
    (bss_cons (bs_for c.pass c.calm (bi_rng1 rfl n_range be_int) (bg_name 3 c.nd) (bss_fgt [3, 4, 5, 6, 7, 8] (bss_cons (bs_set 4 c.nd (be_ix (be_var 1) (be_var 3)))
    (bss_cons (bs_set 5 c.nd (be_ix (be_var 1) (be_ix (be_lst (bl_cons be_int (bl_cons be_int (bl_cons be_int (bl_cons be_int bl_nil))))) (be_var 3))))
    (bss_cons (bs_set 6 c.nd (be_lst (bl_cons (be_ix (be_var 1) be_int) (bl_cons (be_ix (be_var 1) be_int) bl_nil))))
    (bss_cons (bs_if (bt_cmp ob_gt (be_var 3) be_int) (bss_one (bs_set 6 c.nd (be_lst (bl_cons (be_ix (be_var 1) be_int) (bl_cons (be_ix (be_var 1) be_int) bl_nil))))) bss_nil)
    (bss_cons (bs_set 7 c.nd (be_op ob_mul (be_ix (be_ix (be_var 0) (be_ix (be_var 6) be_int)) (be_ix (be_var 6) be_int)) (be_ix (be_ix (be_var 0) (be_var 4)) (be_ix (be_var 6) be_int))))
    (bss_cons (bs_set 8 c.nd (be_op ob_mul (be_ix (be_ix (be_var 0) (be_ix (be_var 6) be_int)) (be_ix (be_var 6) be_int)) (be_ix (be_ix (be_var 0) (be_var 4)) (be_ix (be_var 6) be_int))))
    (bss_one (bs_dput 2 c.units (pv 2) (be_var 4) (be_op ob_mul (be_ix (be_ix (be_var 0) (be_var 4)) (be_var 5)) (be_op ob_add (be_var 7) (be_var 8)))))))))))))
    (bss_one (bs_ret (be_var 2)))))
abbrev s_law_best_of_eight_k64 : Stmt := topS 30
theorem sc_law_best_of_eight_k64 : FnScope ["parts", "d", "player", "found", "one", "best", "left", "right", "other", "own", "rivals", "against", "met", "top", "more", "first", "second", "rival", "member"] ["parts", "d", "player"] (defScope s_law_best_of_eight_k64) := ⟨rfl, rfl, rfl, by decide +kernel, rfl, by decide +kernel, by decide +kernel⟩
theorem bi_law_best_of_eight_k64 (D : Df K mg "_law_best_of_eight" s_law_best_of_eight_k64) : Binds K D.fd ["parts", "d", "player"] [] := D.F.binds (ps := ["parts", "d", "player"]) fun _ _ _ _ _ _ us hl => match us, hl with | [_, _, _], _ => rfl
theorem ok_law_best_of_eight_k64 (hs : base.NoSeer) (ht : P.given.tree = none) (D_law_best_of_eight_k64 : Df K mg "_law_best_of_eight" s_law_best_of_eight_k64) (D_law_four_chances : Df K mg "_law_four_chances" s_law_four_chances) (G_law_four_chances : FnOk P w K mg base CX0 (41) D_law_four_chances.f D_law_four_chances.fd ["parts", "places"] (spOf K 2 d_law_four_chances)) (D_law_fraction : Df K mg "_law_fraction" s_law_fraction) (G_law_fraction : FnOk P w K mg base CX0 (42) D_law_fraction.f D_law_fraction.fd ["n", "d"] (spOf K 2 d_law_fraction)) (D_law_fours : Df K mg "_law_fours" s_law_fours) (G_law_fours : FnOk P w K mg base CX0 (41) D_law_fours.f D_law_fours.fd ["members"] (spOf K 1 d_law_fours)) (n_range : mg "range" = none) (n_sorted : mg "sorted" = none) (n_sum : mg "sum" = none) (n_tuple : mg "tuple" = none) : FnOk P w K mg base CX0 (43) D_law_best_of_eight_k64.f D_law_best_of_eight_k64.fd ["parts", "d", "player"] (spOf K 3 d_law_best_of_eight_k64) :=
  ok_of D_law_best_of_eight_k64.F sc_law_best_of_eight_k64 (by decide) hs ht fun cdv A outer s H E c =>
    (bss_cons (bs_set 3 c.nd (be_lst bl_nil))
    (bss_cons (bs_for c.pass c.calm (bi_rng2 rfl n_range be_int be_int) (bg_name 4 c.nd) (bss_fgt [4, 6, 7, 8, 14, 15, 16] (bss_one (bs_for c.pass c.calm (bi_rng2 rfl n_range (be_op ob_add (be_var 4) be_int) be_int) (bg_name 8 c.nd) (bss_fgt [6, 7, 8, 14, 15, 16] (bss_one (bs_for c.pass c.calm (bi_rng2 rfl n_range (be_op ob_add (be_var 8) be_int) be_int) (bg_name 14 c.nd) (bss_fgt [6, 7, 14, 15, 16] (bss_cons (bs_set 15 c.nd (be_tup (bl_cons be_int (bl_cons (be_var 4) (bl_cons (be_var 8) (bl_cons (be_var 14) bl_nil))))))
    (bss_cons (bs_set 16 c.nd (be_t1 c_tuple rfl n_tuple bt_tuple (be_lcN 18 [("member", 18)] c.calm c.nd (bi_rng1 rfl n_range be_int) (blk_at (N := ["parts", "d", "player", "found", "one", "best", "left", "right", "other", "own", "rivals", "against", "met", "top", "more", "first", "second", "rival", "member"]) (sc := defScope s_law_best_of_eight_k64) rfl rfl (by decide +kernel)) (by decide) rfl (fun _ _ _ _ _ => pg_name (i := 18) c.nd rfl (.inl rfl)) (fun _ _ _ _ _ => (bts_one (bt_cmp (ob_notIn c.unitsD) (be_var 18) (be_var 15)))) (fun _ _ _ _ _ => (be_var 18)))))
    (bss_one (bs_for c.pass c.calm (bi_seq (be_call G_law_fours (c.room.mono (by omega)) rfl D_law_fours.g D_law_fours.F.kp (bi_law_fours D_law_fours) (ba_v (be_var 15) ba_nil))) (bg_name 6 c.nd) (bss_fgt [6, 7] (bss_one (bs_for c.pass c.calm (bi_seq (be_call G_law_fours (c.room.mono (by omega)) rfl D_law_fours.g D_law_fours.F.kp (bi_law_fours D_law_fours) (ba_v (be_var 16) ba_nil))) (bg_name 7 c.nd) (bss_fgt [7] (bss_one (bs_expr (be_append 3 (pv 3) (be_tup (bl_cons (be_var 6) (bl_cons (be_var 7) bl_nil))))))))))))))))))))))
    (bss_cons (bs_set 5 c.nd be_non)
    (bss_cons (bs_for c.pass c.calm (bi_seq (be_b1 (c_sortedR c.units) rfl n_sorted bt_sorted (be_var 3))) (bg_tup c.calm (bgs_cons 6 c.nd (bgs_cons 7 c.nd bgs_nil))) (bss_fgt [6, 7, 9, 10, 11, 12, 13] (bss_cons (bs_set 9 c.nd (be_var 6))
    (bss_cons (bs_set 10 c.nd (be_var 7))
    (bss_cons (bs_if (bt_cmp (ob_in c.unitsD) (be_var 2) (be_var 7)) (bss_cons (bs_set 9 c.nd (be_var 7))
    (bss_one (bs_set 10 c.nd (be_var 6)))) bss_nil)
    (bss_cons (bs_set 11 c.nd (be_call G_law_four_chances (c.room.mono (by omega)) rfl D_law_four_chances.g D_law_four_chances.F.kp (bi_law_four_chances D_law_four_chances) (ba_v (be_var 0) (ba_v (be_var 10) ba_nil))))
    (bss_cons (bs_set 12 c.nd (be_b1 (c_sum c.calm) rfl n_sum bt_sum (be_lcN 17 [("rival", 17)] c.calm c.nd (bi_seq (be_frz (be_var 10))) (blk_at (N := ["parts", "d", "player", "found", "one", "best", "left", "right", "other", "own", "rivals", "against", "met", "top", "more", "first", "second", "rival", "member"]) (sc := defScope s_law_best_of_eight_k64) rfl rfl (by decide +kernel)) (by decide) rfl (fun _ _ _ _ _ => pg_name (i := 17) c.nd rfl (.inl rfl)) (fun _ _ _ _ _ => bts_nil) (fun _ _ _ _ _ => (be_op ob_mul (be_dget c.units (be_var 11) (be_var 17)) (be_ix (be_ix (be_var 0) (be_var 2)) (be_var 17)))))))
    (bss_cons (bs_set 13 c.nd (be_op ob_mul (be_dget c.units (be_call G_law_four_chances (c.room.mono (by omega)) rfl D_law_four_chances.g D_law_four_chances.F.kp (bi_law_four_chances D_law_four_chances) (ba_v (be_var 0) (ba_v (be_var 9) ba_nil))) (be_var 2)) (be_var 12)))
    (bss_one (bs_if (bt_w (bw_or (bt_cmp ob_is (be_var 5) be_non) (bw_or1 (bt_cmp ob_gt (be_var 13) (be_ix (be_var 5) be_int))))) (bss_one (bs_set 5 c.nd (be_tup (bl_cons (be_var 13) (bl_cons (be_op ob_add (be_var 6) (be_var 7)) bl_nil))))) bss_nil))))))))))
    (bss_one (bs_ret (be_tup (bl_cons (be_call G_law_fraction (c.room.mono (by omega)) rfl D_law_fraction.g D_law_fraction.F.kp (bi_law_fraction D_law_fraction) (ba_v (be_ix (be_var 5) be_int) (ba_v (be_op ob_mul (be_op ob_mul (be_op ob_mul (be_op ob_mul (be_op ob_mul (be_op ob_mul (be_var 1) (be_var 1)) (be_var 1)) (be_var 1)) (be_var 1)) (be_var 1)) (be_var 1)) ba_nil))) (bl_cons (be_ix (be_var 5) be_int) bl_nil)))))))))
abbrev s_law_eight_is_right_k64_2 : Stmt := topS 31
theorem sc_law_eight_is_right_k64_2 : FnScope ["draws", "d", "chances", "parts", "player", "row", "chance"] ["draws"] (defScope s_law_eight_is_right_k64_2) := ⟨rfl, rfl, rfl, by decide +kernel, rfl, by decide +kernel, by decide +kernel⟩
theorem bi_law_eight_is_right_k64_2 (D : Df K mg "_law_eight_is_right" s_law_eight_is_right_k64_2) : Binds K D.fd ["draws"] [] := D.F.binds (ps := ["draws"]) fun _ _ _ _ _ _ us hl => match us, hl with | [_], _ => rfl
theorem ok_law_eight_is_right_k64_2 (hs : base.NoSeer) (ht : P.given.tree = none) (D_law_eight_is_right_k64_2 : Df K mg "_law_eight_is_right" s_law_eight_is_right_k64_2) (D_law_ladder : Df K mg "_law_ladder" s_law_ladder) (G_law_ladder : FnOk P w K mg base CX0 (43) D_law_ladder.f D_law_ladder.fd ["draws", "many", "d"] (spOf K 3 d_law_ladder)) (D_law_take : Df K mg "_law_take" s_law_take) (G_law_take : FnOk P w K mg base CX0 (41) D_law_take.f D_law_take.fd ["draws", "many"] (spOf K 2 d_law_take)) (D_law_same : Df K mg "_law_same" s_law_same) (G_law_same : FnOk P w K mg base CX0 (80) D_law_same.f D_law_same.fd ["actual", "due"] (spOf K 2 (d_law_same 40))) (D_best_places_k64 : Df K mg "best_places" s_best_places_k64) (G_best_places_k64 : FnOk P w K mg base CX0 (85) D_best_places_k64.f D_best_places_k64.fd ["chances", "player"] (spOf K 2 d_best_places_k64)) (D_law_best_of_eight_k64 : Df K mg "_law_best_of_eight" s_law_best_of_eight_k64) (G_law_best_of_eight_k64 : FnOk P w K mg base CX0 (43) D_law_best_of_eight_k64.f D_law_best_of_eight_k64.fd ["parts", "d", "player"] (spOf K 3 d_law_best_of_eight_k64)) : FnOk P w K mg base CX0 (86) D_law_eight_is_right_k64_2.f D_law_eight_is_right_k64_2.fd ["draws"] (spOf K 1 d_law_eight_is_right_k64_2) :=
  ok_of D_law_eight_is_right_k64_2.F sc_law_eight_is_right_k64_2 (by decide) hs ht fun cdv A outer s H E c =>
    (bss_cons (bs_set 1 c.nd (be_op ob_add be_int (be_call G_law_take (c.room.mono (by omega)) rfl D_law_take.g D_law_take.F.kp (bi_law_take D_law_take) (ba_r 0 (pv 0) (ba_v be_int ba_nil)))))
    (bss_cons (bs_set 2 c.nd (be_call G_law_ladder (c.room.mono (by omega)) rfl D_law_ladder.g D_law_ladder.F.kp (bi_law_ladder D_law_ladder) (ba_r 0 (pv 0) (ba_v be_int (ba_v (be_var 1) ba_nil)))))
    (bss_cons (bs_setLcN 3 5 [("row", 5)] c.calm c.nd rfl rfl (bi_seq (be_frz (be_var 2))) (blk_at (N := ["draws", "d", "chances", "parts", "player", "row", "chance"]) (sc := defScope s_law_eight_is_right_k64_2) rfl rfl (by decide +kernel)) (by decide) rfl (sw_true rfl rfl rfl (by decide +kernel)) (fun _ _ _ _ _ => pg_name (i := 5) c.nd rfl (.inl rfl)) (fun _ _ _ _ _ => bts_nil) (fun _ _ _ _ _ => (be_lcN 6 [("chance", 6)] c.calm c.nd (bi_seq (be_frz (be_var 5))) (blk_in (N := ["draws", "d", "chances", "parts", "player", "row", "chance"]) (sc0 := defScope s_law_eight_is_right_k64_2) rfl rfl (by decide +kernel)) (by decide) rfl (fun _ _ _ _ _ => pg_name (i := 6) c.nd rfl (.inl rfl)) (fun _ _ _ _ _ => bts_nil) (fun _ _ _ _ _ => (be_op ob_mul (be_ix (be_var 6) be_int) (be_op (ob_div c.div.blk) (be_var 1) (be_ix (be_var 6) be_int)))))))
    (bss_cons (bs_set 4 c.nd (be_call G_law_take (c.room.mono (by omega)) rfl D_law_take.g D_law_take.F.kp (bi_law_take D_law_take) (ba_r 0 (pv 0) (ba_v be_int ba_nil))))
    (bss_one (bs_ret (be_call G_law_same (c.room.mono (by omega)) rfl D_law_same.g D_law_same.F.kp (bi_law_same D_law_same) (ba_v (be_call G_best_places_k64 (c.room.mono (by omega)) rfl D_best_places_k64.g D_best_places_k64.F.kp (bi_best_places_k64 D_best_places_k64) (ba_v (be_var 2) (ba_v (be_var 4) ba_nil))) (ba_v (be_call G_law_best_of_eight_k64 (c.room.mono (by omega)) rfl D_law_best_of_eight_k64.g D_law_best_of_eight_k64.F.kp (bi_law_best_of_eight_k64 D_law_best_of_eight_k64) (ba_v (be_var 3) (ba_v (be_var 1) (ba_v (be_var 4) ba_nil)))) ba_nil)))))))))
abbrev s_law_k64_3 : Stmt := topS 32
theorem sc_law_k64_3 : FnScope ["script", "draws", "many", "d", "chances", "player", "half", "even", "round_about", "one", "other"] ["script"] (defScope s_law_k64_3) := ⟨rfl, rfl, rfl, by decide +kernel, rfl, by decide +kernel, by decide +kernel⟩
theorem ok_law_k64_3 (hs : base.NoSeer) (ht : P.given.tree = none) (D_law_k64_3 : Df K mg "law" s_law_k64_3) (D_law_draws : Df K mg "_law_draws" s_law_draws) (G_law_draws : FnOk P w K mg base CX0 (41) D_law_draws.f D_law_draws.fd ["script", "many"] (spOf K 2 d_law_draws)) (D_law_ladder : Df K mg "_law_ladder" s_law_ladder) (G_law_ladder : FnOk P w K mg base CX0 (43) D_law_ladder.f D_law_ladder.fd ["draws", "many", "d"] (spOf K 3 d_law_ladder)) (D_law_take : Df K mg "_law_take" s_law_take) (G_law_take : FnOk P w K mg base CX0 (41) D_law_take.f D_law_take.fd ["draws", "many"] (spOf K 2 d_law_take)) (D_law_same : Df K mg "_law_same" s_law_same) (G_law_same : FnOk P w K mg base CX0 (80) D_law_same.f D_law_same.fd ["actual", "due"] (spOf K 2 (d_law_same 40))) (D_best_places_k64 : Df K mg "best_places" s_best_places_k64) (G_best_places_k64 : FnOk P w K mg base CX0 (85) D_best_places_k64.f D_best_places_k64.fd ["chances", "player"] (spOf K 2 d_best_places_k64)) (D_law_best_of_all : Df K mg "_law_best_of_all" s_law_best_of_all) (G_law_best_of_all : FnOk P w K mg base CX0 (44) D_law_best_of_all.f D_law_best_of_all.fd ["chances", "player"] (spOf K 2 d_law_best_of_all)) (D_law_eight_is_right_k64_2 : Df K mg "_law_eight_is_right" s_law_eight_is_right_k64_2) (G_law_eight_is_right_k64_2 : FnOk P w K mg base CX0 (86) D_law_eight_is_right_k64_2.f D_law_eight_is_right_k64_2.fd ["draws"] (spOf K 1 d_law_eight_is_right_k64_2)) (D_law_cell : Df K mg "_law_cell" s_law_cell) (G_law_cell : FnOk P w K mg base CX0 (41) D_law_cell.f D_law_cell.fd ["script", "at"] (spOf K 2 d_law_cell)) (n_abs : mg "abs" = none) (n_int : mg "int" = none) (n_range : mg "range" = none) (n_tuple : mg "tuple" = none) : FnOk P w K mg base CX0 (87) D_law_k64_3.f D_law_k64_3.fd ["script"] (spOf K 1 d_law_k64_3) :=
  ok_of D_law_k64_3.F sc_law_k64_3 (by decide) hs ht fun cdv A outer s H E c =>
    (bss_cons (bs_set 1 c.nd (be_call G_law_draws (c.room.mono (by omega)) rfl D_law_draws.g D_law_draws.F.kp (bi_law_draws D_law_draws) (ba_v (be_var 0) (ba_v be_int ba_nil))))
    (bss_cons (bs_set 2 c.nd (be_ix (be_lst (bl_cons be_int (bl_cons be_int (bl_cons be_int (bl_cons be_int bl_nil))))) (be_call G_law_take (c.room.mono (by omega)) rfl D_law_take.g D_law_take.F.kp (bi_law_take D_law_take) (ba_r 1 (pv 1) (ba_v be_int ba_nil)))))
    (bss_cons (bs_set 3 c.nd (be_op ob_add be_int (be_call G_law_take (c.room.mono (by omega)) rfl D_law_take.g D_law_take.F.kp (bi_law_take D_law_take) (ba_r 1 (pv 1) (ba_v (be_ix (be_lst (bl_cons be_int (bl_cons be_int (bl_cons be_int bl_nil)))) (be_call G_law_take (c.room.mono (by omega)) rfl D_law_take.g D_law_take.F.kp (bi_law_take D_law_take) (ba_r 1 (pv 1) (ba_v be_int ba_nil)))) ba_nil)))))
    (bss_cons (bs_if (bt_cmp (ob_eq c.units) (be_call G_law_take (c.room.mono (by omega)) rfl D_law_take.g D_law_take.F.kp (bi_law_take D_law_take) (ba_r 1 (pv 1) (ba_v be_int ba_nil))) be_int) (bss_one (bs_set 3 c.nd (be_op ob_sub (be_op ob_sub (be_op ob_pow be_int be_int) be_int) (be_op ob_mod (be_t1 c_int rfl n_int bt_int (be_op ob_add (be_b1 c_abs rfl n_abs bt_abs (be_call G_law_cell (c.room.mono (by omega)) rfl D_law_cell.g D_law_cell.F.kp (bi_law_cell D_law_cell) (ba_v (be_var 0) (ba_v (be_call G_law_take (c.room.mono (by omega)) rfl D_law_take.g D_law_take.F.kp (bi_law_take D_law_take) (ba_r 1 (pv 1) (ba_v be_int ba_nil))) ba_nil)))) (be_call G_law_take (c.room.mono (by omega)) rfl D_law_take.g D_law_take.F.kp (bi_law_take D_law_take) (ba_r 1 (pv 1) (ba_v be_int ba_nil))))) (be_op ob_pow be_int be_int))))) bss_nil)
    (bss_cons (bs_set 4 c.nd (be_call G_law_ladder (c.room.mono (by omega)) rfl D_law_ladder.g D_law_ladder.F.kp (bi_law_ladder D_law_ladder) (ba_r 1 (pv 1) (ba_v (be_var 2) (ba_v (be_var 3) ba_nil)))))
    (bss_cons (bs_for c.pass c.calm (bi_rng1 rfl n_range (be_var 2)) (bg_name 5 c.nd) (bss_fgt [5] (bss_one (bs_if (bt_not (bt_tru (be_call G_law_same (c.room.mono (by omega)) rfl D_law_same.g D_law_same.F.kp (bi_law_same D_law_same) (ba_v (be_call G_best_places_k64 (c.room.mono (by omega)) rfl D_best_places_k64.g D_best_places_k64.F.kp (bi_best_places_k64 D_best_places_k64) (ba_v (be_var 4) (ba_v (be_var 5) ba_nil))) (ba_v (be_call G_law_best_of_all (c.room.mono (by omega)) rfl D_law_best_of_all.g D_law_best_of_all.F.kp (bi_law_best_of_all D_law_best_of_all) (ba_v (be_var 4) (ba_v (be_var 5) ba_nil))) ba_nil))))) (bss_one (bs_ret be_bl)) bss_nil))))
    (bss_cons (bs_set 5 c.nd (be_call G_law_take (c.room.mono (by omega)) rfl D_law_take.g D_law_take.F.kp (bi_law_take D_law_take) (ba_r 1 (pv 1) (ba_v (be_var 2) ba_nil))))
    (bss_cons (bs_if (bt_not (bt_tru (be_call G_law_same (c.room.mono (by omega)) rfl D_law_same.g D_law_same.F.kp (bi_law_same D_law_same) (ba_v (be_call G_best_places_k64 (c.room.mono (by omega)) rfl D_best_places_k64.g D_best_places_k64.F.kp (bi_best_places_k64 D_best_places_k64) (ba_v (be_var 4) (ba_v (be_var 5) ba_nil))) (ba_v (be_call G_law_best_of_all (c.room.mono (by omega)) rfl D_law_best_of_all.g D_law_best_of_all.F.kp (bi_law_best_of_all D_law_best_of_all) (ba_v (be_var 4) (ba_v (be_var 5) ba_nil))) ba_nil))))) (bss_one (bs_ret be_bl)) bss_nil)
    (bss_cons (bs_if (bt_w (bw_and (bt_cmp (ob_eq c.units) (be_call G_law_take (c.room.mono (by omega)) rfl D_law_take.g D_law_take.F.kp (bi_law_take D_law_take) (ba_r 1 (pv 1) (ba_v be_int ba_nil))) be_int) (bw_and1 (bt_not (bt_tru (be_call G_law_eight_is_right_k64_2 (c.room.mono (by omega)) rfl D_law_eight_is_right_k64_2.g D_law_eight_is_right_k64_2.F.kp (bi_law_eight_is_right_k64_2 D_law_eight_is_right_k64_2) (ba_r 1 (pv 1) ba_nil))))))) (bss_one (bs_ret be_bl)) bss_nil)
    (bss_cons (bs_set 6 c.nd (be_tup (bl_cons be_int (bl_cons be_int bl_nil))))
    (bss_cons (bs_set 7 c.nd (be_t1 c_tuple rfl n_tuple bt_tuple (be_lcN 9 [("one", 9)] c.calm c.nd (bi_rng1 rfl n_range be_int) (blk_at (N := ["script", "draws", "many", "d", "chances", "player", "half", "even", "round_about", "one", "other"]) (sc := defScope s_law_k64_3) rfl rfl (by decide +kernel)) (by decide) rfl (fun _ _ _ _ _ => pg_name (i := 9) c.nd rfl (.inr rfl)) (fun _ _ _ _ _ => bts_nil) (fun _ _ _ _ _ => (be_t1 c_tuple rfl n_tuple bt_tuple (be_lcN 10 [("other", 10)] c.calm c.nd (bi_rng1 rfl n_range be_int) (blk_in (N := ["script", "draws", "many", "d", "chances", "player", "half", "even", "round_about", "one", "other"]) (sc0 := defScope s_law_k64_3) rfl rfl (by decide +kernel)) (by decide) rfl (fun _ _ _ _ _ => pg_name (i := 10) c.nd rfl (.inl rfl)) (fun _ _ _ _ _ => bts_nil) (fun _ _ _ _ _ => (be_ix (be_lst (bl_cons (be_var 6) (bl_cons (be_tup (bl_cons be_int (bl_cons be_int bl_nil))) bl_nil))) (be_t1 c_int rfl n_int bt_int (be_cmp (ob_eq c.units) (be_var 9) (be_var 10)))))))))))
    (bss_cons (bs_if (bt_not (bt_tru (be_call G_law_same (c.room.mono (by omega)) rfl D_law_same.g D_law_same.F.kp (bi_law_same D_law_same) (ba_v (be_call G_best_places_k64 (c.room.mono (by omega)) rfl D_best_places_k64.g D_best_places_k64.F.kp (bi_best_places_k64 D_best_places_k64) (ba_v (be_var 7) (ba_v be_int ba_nil))) (ba_v (be_tup (bl_cons (be_tup (bl_cons be_int (bl_cons be_int bl_nil))) (bl_cons (be_tup (bl_cons be_int (bl_cons be_int (bl_cons be_int (bl_cons be_int bl_nil))))) bl_nil))) ba_nil))))) (bss_one (bs_ret be_bl)) bss_nil)
    (bss_cons (bs_set 8 c.nd (be_tup (bl_cons (be_tup (bl_cons (be_tup (bl_cons be_int (bl_cons be_int bl_nil))) (bl_cons (be_tup (bl_cons be_int (bl_cons be_int bl_nil))) (bl_cons (be_tup (bl_cons be_int (bl_cons be_int bl_nil))) (bl_cons (be_tup (bl_cons be_int (bl_cons be_int bl_nil))) bl_nil))))) (bl_cons (be_tup (bl_cons (be_tup (bl_cons be_int (bl_cons be_int bl_nil))) (bl_cons (be_tup (bl_cons be_int (bl_cons be_int bl_nil))) (bl_cons (be_tup (bl_cons be_int (bl_cons be_int bl_nil))) (bl_cons (be_tup (bl_cons be_int (bl_cons be_int bl_nil))) bl_nil))))) (bl_cons (be_tup (bl_cons (be_tup (bl_cons be_int (bl_cons be_int bl_nil))) (bl_cons (be_tup (bl_cons be_int (bl_cons be_int bl_nil))) (bl_cons (be_tup (bl_cons be_int (bl_cons be_int bl_nil))) (bl_cons (be_tup (bl_cons be_int (bl_cons be_int bl_nil))) bl_nil))))) (bl_cons (be_tup (bl_cons (be_tup (bl_cons be_int (bl_cons be_int bl_nil))) (bl_cons (be_tup (bl_cons be_int (bl_cons be_int bl_nil))) (bl_cons (be_tup (bl_cons be_int (bl_cons be_int bl_nil))) (bl_cons (be_tup (bl_cons be_int (bl_cons be_int bl_nil))) bl_nil))))) bl_nil))))))
    (bss_one (bs_ret (be_and (be_call G_law_same (c.room.mono (by omega)) rfl D_law_same.g D_law_same.F.kp (bi_law_same D_law_same) (ba_v (be_call G_best_places_k64 (c.room.mono (by omega)) rfl D_best_places_k64.g D_best_places_k64.F.kp (bi_best_places_k64 D_best_places_k64) (ba_v (be_var 8) (ba_v be_int ba_nil))) (ba_v (be_tup (bl_cons (be_tup (bl_cons be_int (bl_cons be_int bl_nil))) (bl_cons (be_tup (bl_cons be_int (bl_cons be_int (bl_cons be_int (bl_cons be_int bl_nil))))) bl_nil))) ba_nil))) (be_one (be_call G_law_same (c.room.mono (by omega)) rfl D_law_same.g D_law_same.F.kp (bi_law_same D_law_same) (ba_v (be_call G_best_places_k64 (c.room.mono (by omega)) rfl D_best_places_k64.g D_best_places_k64.F.kp (bi_best_places_k64 D_best_places_k64) (ba_v (be_var 8) (ba_v be_int ba_nil))) (ba_v (be_tup (bl_cons (be_tup (bl_cons be_int (bl_cons be_int bl_nil))) (bl_cons (be_tup (bl_cons be_int (bl_cons be_int (bl_cons be_int (bl_cons be_int bl_nil))))) bl_nil))) ba_nil))))))))))))))))))))
end
theorem all_mk {l : PySem.W.OpenLaw} {w : World} {K : PySem.W.Frag} {h : Heap} {mg : Str → Option Value} {fa f0 f1 f2 f3 f4 f5 f6 f7 f8 f9 f10 f11 f12 f13 f14 f15 f16 f17 f18 f19 f20 f21 f22 f23 f24 f25 : Addr} {od0 an0 od1 an1 od2 an2 od3 an3 od4 an4 od5 an5 od6 an6 od7 an7 od8 an8 od9 an9 od10 an10 od11 an11 od12 an12 od13 an13 od14 an14 od15 an15 od16 an16 od17 an17 od18 an18 od19 an19 od20 an20 od21 an21 od22 an22 od23 an23 od24 an24 od25 an25 : Option Addr} {sl0 sl1 sl2 sl3 sl4 sl5 sl6 sl7 sl8 sl9 sl10 sl11 sl12 sl13 sl14 sl15 sl16 sl17 sl18 sl19 sl20 sl21 sl22 sl23 sl24 sl25 : Array (Option Value)} {oc0 kV0 dc0 pm0 cd0 ct0 oc1 kV1 dc1 pm1 cd1 ct1 oc2 kV2 dc2 pm2 cd2 ct2 oc3 kV3 dc3 pm3 cd3 ct3 oc4 kV4 dc4 pm4 cd4 ct4 oc5 kV5 dc5 pm5 cd5 ct5 oc6 kV6 dc6 pm6 cd6 ct6 oc7 kV7 dc7 pm7 cd7 ct7 oc8 kV8 dc8 pm8 cd8 ct8 oc9 kV9 dc9 pm9 cd9 ct9 oc10 kV10 dc10 pm10 cd10 ct10 oc11 kV11 dc11 pm11 cd11 ct11 oc12 kV12 dc12 pm12 cd12 ct12 oc13 kV13 dc13 pm13 cd13 ct13 oc14 kV14 dc14 pm14 cd14 ct14 oc15 kV15 dc15 pm15 cd15 ct15 oc16 kV16 dc16 pm16 cd16 ct16 oc17 kV17 dc17 pm17 cd17 ct17 oc18 kV18 dc18 pm18 cd18 ct18 oc19 kV19 dc19 pm19 cd19 ct19 oc20 kV20 dc20 pm20 cd20 ct20 oc21 kV21 dc21 pm21 cd21 ct21 oc22 kV22 dc22 pm22 cd22 ct22 oc23 kV23 dc23 pm23 cd23 ct23 oc24 kV24 dc24 pm24 cd24 ct24 oc25 kV25 dc25 pm25 cd25 ct25 : Value} {ca_NOTHING : Addr} {ct_NOTHING cu_NOTHING : Tok} {co_NOTHING : Option Addr} {cn_NOTHING : Nat} {cs_NOTHING : Array (Option Value)} {ca_ONE : Addr} {ct_ONE cu_ONE : Tok} {co_ONE : Option Addr} {cn_ONE : Nat} {cs_ONE : Array (Option Value)} (ht : l.prog.given.tree = none) (X : K.In h) (G : h.Ns mainGlobals mg) (hfa : mg "law" = some (.ref fa)) (a0 : PySem.W.nsIn K mainGlobals "divisor" = some (some (.ref f0))) (l0 : K.lookup f0 = some ⟨oc0, od0, .func (PySem.W.fnOf "divisor" "divisor" (defArgs s_divisor) (defBody s_divisor) (defScope s_divisor) .none kV0 dc0 pm0 an0 cd0 ct0), sl0⟩) (c0 : PySem.W.codeIn K cd0 "divisor" = true) (k0 : PySem.W.keepIn K (.ref f0) = true) (a1 : PySem.W.nsIn K mainGlobals "fraction" = some (some (.ref f1))) (l1 : K.lookup f1 = some ⟨oc1, od1, .func (PySem.W.fnOf "fraction" "fraction" (defArgs s_fraction) (defBody s_fraction) (defScope s_fraction) .none kV1 dc1 pm1 an1 cd1 ct1), sl1⟩) (c1 : PySem.W.codeIn K cd1 "fraction" = true) (k1 : PySem.W.keepIn K (.ref f1) = true) (a2 : PySem.W.nsIn K mainGlobals "plus" = some (some (.ref f2))) (l2 : K.lookup f2 = some ⟨oc2, od2, .func (PySem.W.fnOf "plus" "plus" (defArgs s_plus) (defBody s_plus) (defScope s_plus) .none kV2 dc2 pm2 an2 cd2 ct2), sl2⟩) (c2 : PySem.W.codeIn K cd2 "plus" = true) (k2 : PySem.W.keepIn K (.ref f2) = true) (a3 : PySem.W.nsIn K mainGlobals "times" = some (some (.ref f3))) (l3 : K.lookup f3 = some ⟨oc3, od3, .func (PySem.W.fnOf "times" "times" (defArgs s_times) (defBody s_times) (defScope s_times) .none kV3 dc3 pm3 an3 cd3 ct3), sl3⟩) (c3 : PySem.W.codeIn K cd3 "times" = true) (k3 : PySem.W.keepIn K (.ref f3) = true) (a4 : PySem.W.nsIn K mainGlobals "is_less" = some (some (.ref f4))) (l4 : K.lookup f4 = some ⟨oc4, od4, .func (PySem.W.fnOf "is_less" "is_less" (defArgs s_is_less) (defBody s_is_less) (defScope s_is_less) .none kV4 dc4 pm4 an4 cd4 ct4), sl4⟩) (c4 : PySem.W.codeIn K cd4 "is_less" = true) (k4 : PySem.W.keepIn K (.ref f4) = true) (a5 : PySem.W.nsIn K mainGlobals "winners" = some (some (.ref f5))) (l5 : K.lookup f5 = some ⟨oc5, od5, .func (PySem.W.fnOf "winners" "winners" (defArgs s_winners) (defBody s_winners) (defScope s_winners) .none kV5 dc5 pm5 an5 cd5 ct5), sl5⟩) (c5 : PySem.W.codeIn K cd5 "winners" = true) (k5 : PySem.W.keepIn K (.ref f5) = true) (a6 : PySem.W.nsIn K mainGlobals "to_win" = some (some (.ref f6))) (l6 : K.lookup f6 = some ⟨oc6, od6, .func (PySem.W.fnOf "to_win" "to_win" (defArgs s_to_win) (defBody s_to_win) (defScope s_to_win) .none kV6 dc6 pm6 an6 cd6 ct6), sl6⟩) (c6 : PySem.W.codeIn K cd6 "to_win" = true) (k6 : PySem.W.keepIn K (.ref f6) = true) (a7 : PySem.W.nsIn K mainGlobals "halves" = some (some (.ref f7))) (l7 : K.lookup f7 = some ⟨oc7, od7, .func (PySem.W.fnOf "halves" "halves" (defArgs s_halves_k64_2) (defBody s_halves_k64_2) (defScope s_halves_k64_2) .none kV7 dc7 pm7 an7 cd7 ct7), sl7⟩) (c7 : PySem.W.codeIn K cd7 "halves" = true) (k7 : PySem.W.keepIn K (.ref f7) = true) (a8 : PySem.W.nsIn K mainGlobals "unlike_places" = some (some (.ref f8))) (l8 : K.lookup f8 = some ⟨oc8, od8, .func (PySem.W.fnOf "unlike_places" "unlike_places" (defArgs s_unlike_places_k64_2) (defBody s_unlike_places_k64_2) (defScope s_unlike_places_k64_2) .none kV8 dc8 pm8 an8 cd8 ct8), sl8⟩) (c8 : PySem.W.codeIn K cd8 "unlike_places" = true) (k8 : PySem.W.keepIn K (.ref f8) = true) (a9 : PySem.W.nsIn K mainGlobals "best_places" = some (some (.ref f9))) (l9 : K.lookup f9 = some ⟨oc9, od9, .func (PySem.W.fnOf "best_places" "best_places" (defArgs s_best_places_k64) (defBody s_best_places_k64) (defScope s_best_places_k64) .none kV9 dc9 pm9 an9 cd9 ct9), sl9⟩) (c9 : PySem.W.codeIn K cd9 "best_places" = true) (k9 : PySem.W.keepIn K (.ref f9) = true) (a10 : PySem.W.nsIn K mainGlobals "_law_draws" = some (some (.ref f10))) (l10 : K.lookup f10 = some ⟨oc10, od10, .func (PySem.W.fnOf "_law_draws" "_law_draws" (defArgs s_law_draws) (defBody s_law_draws) (defScope s_law_draws) .none kV10 dc10 pm10 an10 cd10 ct10), sl10⟩) (c10 : PySem.W.codeIn K cd10 "_law_draws" = true) (k10 : PySem.W.keepIn K (.ref f10) = true) (a11 : PySem.W.nsIn K mainGlobals "_law_take" = some (some (.ref f11))) (l11 : K.lookup f11 = some ⟨oc11, od11, .func (PySem.W.fnOf "_law_take" "_law_take" (defArgs s_law_take) (defBody s_law_take) (defScope s_law_take) .none kV11 dc11 pm11 an11 cd11 ct11), sl11⟩) (c11 : PySem.W.codeIn K cd11 "_law_take" = true) (k11 : PySem.W.keepIn K (.ref f11) = true) (a12 : PySem.W.nsIn K mainGlobals "_law_cell" = some (some (.ref f12))) (l12 : K.lookup f12 = some ⟨oc12, od12, .func (PySem.W.fnOf "_law_cell" "_law_cell" (defArgs s_law_cell) (defBody s_law_cell) (defScope s_law_cell) .none kV12 dc12 pm12 an12 cd12 ct12), sl12⟩) (c12 : PySem.W.codeIn K cd12 "_law_cell" = true) (k12 : PySem.W.keepIn K (.ref f12) = true) (a13 : PySem.W.nsIn K mainGlobals "_law_same" = some (some (.ref f13))) (l13 : K.lookup f13 = some ⟨oc13, od13, .func (PySem.W.fnOf "_law_same" "_law_same" (defArgs s_law_same) (defBody s_law_same) (defScope s_law_same) .none kV13 dc13 pm13 an13 cd13 ct13), sl13⟩) (c13 : PySem.W.codeIn K cd13 "_law_same" = true) (k13 : PySem.W.keepIn K (.ref f13) = true) (a14 : PySem.W.nsIn K mainGlobals "_law_common" = some (some (.ref f14))) (l14 : K.lookup f14 = some ⟨oc14, od14, .func (PySem.W.fnOf "_law_common" "_law_common" (defArgs s_law_common) (defBody s_law_common) (defScope s_law_common) .none kV14 dc14 pm14 an14 cd14 ct14), sl14⟩) (c14 : PySem.W.codeIn K cd14 "_law_common" = true) (k14 : PySem.W.keepIn K (.ref f14) = true) (a15 : PySem.W.nsIn K mainGlobals "_law_fraction" = some (some (.ref f15))) (l15 : K.lookup f15 = some ⟨oc15, od15, .func (PySem.W.fnOf "_law_fraction" "_law_fraction" (defArgs s_law_fraction) (defBody s_law_fraction) (defScope s_law_fraction) .none kV15 dc15 pm15 an15 cd15 ct15), sl15⟩) (c15 : PySem.W.codeIn K cd15 "_law_fraction" = true) (k15 : PySem.W.keepIn K (.ref f15) = true) (a16 : PySem.W.nsIn K mainGlobals "_law_ladder" = some (some (.ref f16))) (l16 : K.lookup f16 = some ⟨oc16, od16, .func (PySem.W.fnOf "_law_ladder" "_law_ladder" (defArgs s_law_ladder) (defBody s_law_ladder) (defScope s_law_ladder) .none kV16 dc16 pm16 an16 cd16 ct16), sl16⟩) (c16 : PySem.W.codeIn K cd16 "_law_ladder" = true) (k16 : PySem.W.keepIn K (.ref f16) = true) (a17 : PySem.W.nsIn K mainGlobals "_law_met" = some (some (.ref f17))) (l17 : K.lookup f17 = some ⟨oc17, od17, .func (PySem.W.fnOf "_law_met" "_law_met" (defArgs s_law_met) (defBody s_law_met) (defScope s_law_met) .none kV17 dc17 pm17 an17 cd17 ct17), sl17⟩) (c17 : PySem.W.codeIn K cd17 "_law_met" = true) (k17 : PySem.W.keepIn K (.ref f17) = true) (a18 : PySem.W.nsIn K mainGlobals "_law_winners" = some (some (.ref f18))) (l18 : K.lookup f18 = some ⟨oc18, od18, .func (PySem.W.fnOf "_law_winners" "_law_winners" (defArgs s_law_winners) (defBody s_law_winners) (defScope s_law_winners) .none kV18 dc18 pm18 an18 cd18 ct18), sl18⟩) (c18 : PySem.W.codeIn K cd18 "_law_winners" = true) (k18 : PySem.W.keepIn K (.ref f18) = true) (a19 : PySem.W.nsIn K mainGlobals "_law_orders" = some (some (.ref f19))) (l19 : K.lookup f19 = some ⟨oc19, od19, .func (PySem.W.fnOf "_law_orders" "_law_orders" (defArgs s_law_orders) (defBody s_law_orders) (defScope s_law_orders) .none kV19 dc19 pm19 an19 cd19 ct19), sl19⟩) (c19 : PySem.W.codeIn K cd19 "_law_orders" = true) (k19 : PySem.W.keepIn K (.ref f19) = true) (a20 : PySem.W.nsIn K mainGlobals "_law_best_of_all" = some (some (.ref f20))) (l20 : K.lookup f20 = some ⟨oc20, od20, .func (PySem.W.fnOf "_law_best_of_all" "_law_best_of_all" (defArgs s_law_best_of_all) (defBody s_law_best_of_all) (defScope s_law_best_of_all) .none kV20 dc20 pm20 an20 cd20 ct20), sl20⟩) (c20 : PySem.W.codeIn K cd20 "_law_best_of_all" = true) (k20 : PySem.W.keepIn K (.ref f20) = true) (a21 : PySem.W.nsIn K mainGlobals "_law_fours" = some (some (.ref f21))) (l21 : K.lookup f21 = some ⟨oc21, od21, .func (PySem.W.fnOf "_law_fours" "_law_fours" (defArgs s_law_fours) (defBody s_law_fours) (defScope s_law_fours) .none kV21 dc21 pm21 an21 cd21 ct21), sl21⟩) (c21 : PySem.W.codeIn K cd21 "_law_fours" = true) (k21 : PySem.W.keepIn K (.ref f21) = true) (a22 : PySem.W.nsIn K mainGlobals "_law_four_chances" = some (some (.ref f22))) (l22 : K.lookup f22 = some ⟨oc22, od22, .func (PySem.W.fnOf "_law_four_chances" "_law_four_chances" (defArgs s_law_four_chances) (defBody s_law_four_chances) (defScope s_law_four_chances) .none kV22 dc22 pm22 an22 cd22 ct22), sl22⟩) (c22 : PySem.W.codeIn K cd22 "_law_four_chances" = true) (k22 : PySem.W.keepIn K (.ref f22) = true) (a23 : PySem.W.nsIn K mainGlobals "_law_best_of_eight" = some (some (.ref f23))) (l23 : K.lookup f23 = some ⟨oc23, od23, .func (PySem.W.fnOf "_law_best_of_eight" "_law_best_of_eight" (defArgs s_law_best_of_eight_k64) (defBody s_law_best_of_eight_k64) (defScope s_law_best_of_eight_k64) .none kV23 dc23 pm23 an23 cd23 ct23), sl23⟩) (c23 : PySem.W.codeIn K cd23 "_law_best_of_eight" = true) (k23 : PySem.W.keepIn K (.ref f23) = true) (a24 : PySem.W.nsIn K mainGlobals "_law_eight_is_right" = some (some (.ref f24))) (l24 : K.lookup f24 = some ⟨oc24, od24, .func (PySem.W.fnOf "_law_eight_is_right" "_law_eight_is_right" (defArgs s_law_eight_is_right_k64_2) (defBody s_law_eight_is_right_k64_2) (defScope s_law_eight_is_right_k64_2) .none kV24 dc24 pm24 an24 cd24 ct24), sl24⟩) (c24 : PySem.W.codeIn K cd24 "_law_eight_is_right" = true) (k24 : PySem.W.keepIn K (.ref f24) = true) (a25 : PySem.W.nsIn K mainGlobals "law" = some (some (.ref f25))) (l25 : K.lookup f25 = some ⟨oc25, od25, .func (PySem.W.fnOf "law" "law" (defArgs s_law_k64_3) (defBody s_law_k64_3) (defScope s_law_k64_3) .none kV25 dc25 pm25 an25 cd25 ct25), sl25⟩) (c25 : PySem.W.codeIn K cd25 "law" = true) (k25 : PySem.W.keepIn K (.ref f25) = true) (z_abs : PySem.W.nsIn K mainGlobals "abs" = some none) (z_bool : PySem.W.nsIn K mainGlobals "bool" = some none) (z_dict : PySem.W.nsIn K mainGlobals "dict" = some none) (z_int : PySem.W.nsIn K mainGlobals "int" = some none) (z_isinstance : PySem.W.nsIn K mainGlobals "isinstance" = some none) (z_len : PySem.W.nsIn K mainGlobals "len" = some none) (z_list : PySem.W.nsIn K mainGlobals "list" = some none) (z_range : PySem.W.nsIn K mainGlobals "range" = some none) (z_sorted : PySem.W.nsIn K mainGlobals "sorted" = some none) (z_str : PySem.W.nsIn K mainGlobals "str" = some none) (z_sum : PySem.W.nsIn K mainGlobals "sum" = some none) (z_tuple : PySem.W.nsIn K mainGlobals "tuple" = some none) (y_gcd : PySem.W.nsIn K mainGlobals "gcd" = some (some (.builtin "math.gcd"))) (q_NOTHING : PySem.W.nsIn K mainGlobals "NOTHING" = some (some (.ref ca_NOTHING))) (r_NOTHING : K.lookup ca_NOTHING = some ⟨.type "tuple", co_NOTHING, .seq #[.int 0 ct_NOTHING, .int 1 cu_NOTHING] cn_NOTHING, cs_NOTHING⟩) (q_ONE : PySem.W.nsIn K mainGlobals "ONE" = some (some (.ref ca_ONE))) (r_ONE : K.lookup ca_ONE = some ⟨.type "tuple", co_ONE, .seq #[.int 1 ct_ONE, .int 1 cu_ONE] cn_ONE, cs_ONE⟩) :
    ∃ fd : FuncData, (∀ (s : Shared) (v : Value), BindsTo s fd ⟨[v], []⟩ [("script", v)]) ∧ ∀ base : Heap, K.In base → base.Ns mainGlobals mg → base.NoSeer → FnOk l.prog w K mg base CX0 87 fa fd ["script"] (spOf K 1 d_law_k64_3) := by
  have e := hfa.symm.trans (PySem.W.mg_of X G a25)
  cases e
  let D_divisor : Df K mg "divisor" s_divisor := ⟨f0, _, fun_mk l0 c0 k0, PySem.W.mg_of X G a0⟩
  let D_fraction : Df K mg "fraction" s_fraction := ⟨f1, _, fun_mk l1 c1 k1, PySem.W.mg_of X G a1⟩
  let D_plus : Df K mg "plus" s_plus := ⟨f2, _, fun_mk l2 c2 k2, PySem.W.mg_of X G a2⟩
  let D_times : Df K mg "times" s_times := ⟨f3, _, fun_mk l3 c3 k3, PySem.W.mg_of X G a3⟩
  let D_is_less : Df K mg "is_less" s_is_less := ⟨f4, _, fun_mk l4 c4 k4, PySem.W.mg_of X G a4⟩
  let D_winners : Df K mg "winners" s_winners := ⟨f5, _, fun_mk l5 c5 k5, PySem.W.mg_of X G a5⟩
  let D_to_win : Df K mg "to_win" s_to_win := ⟨f6, _, fun_mk l6 c6 k6, PySem.W.mg_of X G a6⟩
  let D_halves_k64_2 : Df K mg "halves" s_halves_k64_2 := ⟨f7, _, fun_mk l7 c7 k7, PySem.W.mg_of X G a7⟩
  let D_unlike_places_k64_2 : Df K mg "unlike_places" s_unlike_places_k64_2 := ⟨f8, _, fun_mk l8 c8 k8, PySem.W.mg_of X G a8⟩
  let D_best_places_k64 : Df K mg "best_places" s_best_places_k64 := ⟨f9, _, fun_mk l9 c9 k9, PySem.W.mg_of X G a9⟩
  let D_law_draws : Df K mg "_law_draws" s_law_draws := ⟨f10, _, fun_mk l10 c10 k10, PySem.W.mg_of X G a10⟩
  let D_law_take : Df K mg "_law_take" s_law_take := ⟨f11, _, fun_mk l11 c11 k11, PySem.W.mg_of X G a11⟩
  let D_law_cell : Df K mg "_law_cell" s_law_cell := ⟨f12, _, fun_mk l12 c12 k12, PySem.W.mg_of X G a12⟩
  let D_law_same : Df K mg "_law_same" s_law_same := ⟨f13, _, fun_mk l13 c13 k13, PySem.W.mg_of X G a13⟩
  let D_law_common : Df K mg "_law_common" s_law_common := ⟨f14, _, fun_mk l14 c14 k14, PySem.W.mg_of X G a14⟩
  let D_law_fraction : Df K mg "_law_fraction" s_law_fraction := ⟨f15, _, fun_mk l15 c15 k15, PySem.W.mg_of X G a15⟩
  let D_law_ladder : Df K mg "_law_ladder" s_law_ladder := ⟨f16, _, fun_mk l16 c16 k16, PySem.W.mg_of X G a16⟩
  let D_law_met : Df K mg "_law_met" s_law_met := ⟨f17, _, fun_mk l17 c17 k17, PySem.W.mg_of X G a17⟩
  let D_law_winners : Df K mg "_law_winners" s_law_winners := ⟨f18, _, fun_mk l18 c18 k18, PySem.W.mg_of X G a18⟩
  let D_law_orders : Df K mg "_law_orders" s_law_orders := ⟨f19, _, fun_mk l19 c19 k19, PySem.W.mg_of X G a19⟩
  let D_law_best_of_all : Df K mg "_law_best_of_all" s_law_best_of_all := ⟨f20, _, fun_mk l20 c20 k20, PySem.W.mg_of X G a20⟩
  let D_law_fours : Df K mg "_law_fours" s_law_fours := ⟨f21, _, fun_mk l21 c21 k21, PySem.W.mg_of X G a21⟩
  let D_law_four_chances : Df K mg "_law_four_chances" s_law_four_chances := ⟨f22, _, fun_mk l22 c22 k22, PySem.W.mg_of X G a22⟩
  let D_law_best_of_eight_k64 : Df K mg "_law_best_of_eight" s_law_best_of_eight_k64 := ⟨f23, _, fun_mk l23 c23 k23, PySem.W.mg_of X G a23⟩
  let D_law_eight_is_right_k64_2 : Df K mg "_law_eight_is_right" s_law_eight_is_right_k64_2 := ⟨f24, _, fun_mk l24 c24 k24, PySem.W.mg_of X G a24⟩
  let D_law_k64_3 : Df K mg "law" s_law_k64_3 := ⟨fa, _, fun_mk l25 c25 k25, PySem.W.mg_of X G a25⟩
  have n_abs := PySem.W.mg_none_of X G z_abs
  have n_bool := PySem.W.mg_none_of X G z_bool
  have n_dict := PySem.W.mg_none_of X G z_dict
  have n_int := PySem.W.mg_none_of X G z_int
  have n_isinstance := PySem.W.mg_none_of X G z_isinstance
  have n_len := PySem.W.mg_none_of X G z_len
  have n_list := PySem.W.mg_none_of X G z_list
  have n_range := PySem.W.mg_none_of X G z_range
  have n_sorted := PySem.W.mg_none_of X G z_sorted
  have n_str := PySem.W.mg_none_of X G z_str
  have n_sum := PySem.W.mg_none_of X G z_sum
  have n_tuple := PySem.W.mg_none_of X G z_tuple
  have v_gcd := PySem.W.mg_of X G y_gcd
  let TNOTHING := ct_mk X G q_NOTHING r_NOTHING
  let TONE := ct_mk X G q_ONE r_ONE
  refine ⟨D_law_k64_3.fd, fun s v => .of_eq rfl, fun base _ _ hs => ?_⟩
  have G_divisor := ok_divisor (P := l.prog) (w := w) (base := base) hs ht D_divisor v_gcd
  have G_fraction := ok_fraction (P := l.prog) (w := w) (base := base) hs ht D_fraction D_divisor G_divisor
  have G_plus := ok_plus (P := l.prog) (w := w) (base := base) hs ht D_plus D_fraction G_fraction
  have G_times := ok_times (P := l.prog) (w := w) (base := base) hs ht D_times D_fraction G_fraction
  have G_is_less := ok_is_less (P := l.prog) (w := w) (base := base) hs ht D_is_less
  have G_winners := ok_winners (P := l.prog) (w := w) (base := base) hs ht D_winners D_plus G_plus D_times G_times n_len TNOTHING TONE 40
  have G_to_win := ok_to_win (P := l.prog) (w := w) (base := base) hs ht D_to_win D_winners G_winners n_dict n_len n_range n_tuple
  have G_halves_k64_2 := ok_halves_k64_2 (P := l.prog) (w := w) (base := base) hs ht D_halves_k64_2 n_len
  have G_unlike_places_k64_2 := ok_unlike_places_k64_2 (P := l.prog) (w := w) (base := base) hs ht D_unlike_places_k64_2 D_halves_k64_2 G_halves_k64_2 n_len n_tuple 40
  have G_best_places_k64 := ok_best_places_k64 (P := l.prog) (w := w) (base := base) hs ht D_best_places_k64 D_unlike_places_k64_2 G_unlike_places_k64_2 D_to_win G_to_win D_is_less G_is_less n_len n_range n_sorted n_tuple
  have G_law_draws := ok_law_draws (P := l.prog) (w := w) (base := base) hs ht D_law_draws n_int n_len n_list n_range
  have G_law_take := ok_law_take (P := l.prog) (w := w) (base := base) hs ht D_law_take n_int n_len
  have G_law_cell := ok_law_cell (P := l.prog) (w := w) (base := base) hs ht D_law_cell n_int n_len
  have G_law_same := ok_law_same (P := l.prog) (w := w) (base := base) hs ht D_law_same n_bool n_int n_isinstance n_len n_range n_str n_tuple 40
  have G_law_common := ok_law_common (P := l.prog) (w := w) (base := base) hs ht D_law_common n_abs n_int
  have G_law_fraction := ok_law_fraction (P := l.prog) (w := w) (base := base) hs ht D_law_fraction D_law_common G_law_common
  have G_law_ladder := ok_law_ladder (P := l.prog) (w := w) (base := base) hs ht D_law_ladder D_law_fraction G_law_fraction D_law_take G_law_take n_range n_tuple
  have G_law_met := ok_law_met (P := l.prog) (w := w) (base := base) hs ht D_law_met D_law_common G_law_common
  have G_law_winners := ok_law_winners (P := l.prog) (w := w) (base := base) hs ht D_law_winners D_law_met G_law_met n_len n_range
  have G_law_orders := ok_law_orders (P := l.prog) (w := w) (base := base) hs ht D_law_orders n_range
  have G_law_best_of_all := ok_law_best_of_all (P := l.prog) (w := w) (base := base) hs ht D_law_best_of_all D_law_orders G_law_orders D_law_winners G_law_winners D_law_fraction G_law_fraction n_len n_sum
  have G_law_fours := ok_law_fours (P := l.prog) (w := w) (base := base) hs ht D_law_fours
  have G_law_four_chances := ok_law_four_chances (P := l.prog) (w := w) (base := base) hs ht D_law_four_chances n_range
  have G_law_best_of_eight_k64 := ok_law_best_of_eight_k64 (P := l.prog) (w := w) (base := base) hs ht D_law_best_of_eight_k64 D_law_four_chances G_law_four_chances D_law_fraction G_law_fraction D_law_fours G_law_fours n_range n_sorted n_sum n_tuple
  have G_law_eight_is_right_k64_2 := ok_law_eight_is_right_k64_2 (P := l.prog) (w := w) (base := base) hs ht D_law_eight_is_right_k64_2 D_law_ladder G_law_ladder D_law_take G_law_take D_law_same G_law_same D_best_places_k64 G_best_places_k64 D_law_best_of_eight_k64 G_law_best_of_eight_k64
  exact ok_law_k64_3 (P := l.prog) (w := w) (base := base) hs ht D_law_k64_3 D_law_draws G_law_draws D_law_ladder G_law_ladder D_law_take G_law_take D_law_same G_law_same D_best_places_k64 G_best_places_k64 D_law_best_of_all G_law_best_of_all D_law_eight_is_right_k64_2 G_law_eight_is_right_k64_2 D_law_cell G_law_cell n_abs n_int n_range n_tuple
end Law_k64
open PySem PySem.W PyProof.Rows
set_option maxHeartbeats 0 in
theorem PySem.Challenge.cw_nosurebet_k64_best_places_holds : PySem.Challenge.rw_nosurebet_k64_best_places.Holds := by
  w_on; o_law; k_head; (case hw => w_witness2)
  k_fill
  refine Py.walk_py (l := PySem.Challenge.rw_nosurebet_k64_best_places) (n := 63) (k := 87) (x := "script") (d := D.d_law_k64_3) rfl (by decide) rfl ⟨rfl, by decide, by decide⟩ (by rfl) (fun w h Y => PySem.W.kIn_of Y) ?F Law_k64.holds
  case F =>
    intro w mg fa h KX G hmg
    refine' Law_k64.all_mk rfl KX G hmg ?a0 ?l0 ?c0 ?k0 ?a1 ?l1 ?c1 ?k1 ?a2 ?l2 ?c2 ?k2 ?a3 ?l3 ?c3 ?k3 ?a4 ?l4 ?c4 ?k4 ?a5 ?l5 ?c5 ?k5 ?a6 ?l6 ?c6 ?k6 ?a7 ?l7 ?c7 ?k7 ?a8 ?l8 ?c8 ?k8 ?a9 ?l9 ?c9 ?k9 ?a10 ?l10 ?c10 ?k10 ?a11 ?l11 ?c11 ?k11 ?a12 ?l12 ?c12 ?k12 ?a13 ?l13 ?c13 ?k13 ?a14 ?l14 ?c14 ?k14 ?a15 ?l15 ?c15 ?k15 ?a16 ?l16 ?c16 ?k16 ?a17 ?l17 ?c17 ?k17 ?a18 ?l18 ?c18 ?k18 ?a19 ?l19 ?c19 ?k19 ?a20 ?l20 ?c20 ?k20 ?a21 ?l21 ?c21 ?k21 ?a22 ?l22 ?c22 ?k22 ?a23 ?l23 ?c23 ?k23 ?a24 ?l24 ?c24 ?k24 ?a25 ?l25 ?c25 ?k25 ?z_abs ?z_bool ?z_dict ?z_int ?z_isinstance ?z_len ?z_list ?z_range ?z_sorted ?z_str ?z_sum ?z_tuple ?y_gcd ?q_NOTHING ?r_NOTHING ?q_ONE ?r_ONE
    (case a0 => k_is); (case l0 => k_is); (case c0 => k_is); (case k0 => k_is); (case a1 => k_is); (case l1 => k_is); (case c1 => k_is); (case k1 => k_is); (case a2 => k_is); (case l2 => k_is); (case c2 => k_is); (case k2 => k_is); (case a3 => k_is); (case l3 => k_is); (case c3 => k_is); (case k3 => k_is); (case a4 => k_is); (case l4 => k_is); (case c4 => k_is); (case k4 => k_is); (case a5 => k_is); (case l5 => k_is); (case c5 => k_is); (case k5 => k_is); (case a6 => k_is); (case l6 => k_is); (case c6 => k_is); (case k6 => k_is); (case a7 => k_is); (case l7 => k_is); (case c7 => k_is); (case k7 => k_is); (case a8 => k_is); (case l8 => k_is); (case c8 => k_is); (case k8 => k_is); (case a9 => k_is); (case l9 => k_is); (case c9 => k_is); (case k9 => k_is); (case a10 => k_is); (case l10 => k_is); (case c10 => k_is); (case k10 => k_is); (case a11 => k_is); (case l11 => k_is); (case c11 => k_is); (case k11 => k_is); (case a12 => k_is); (case l12 => k_is); (case c12 => k_is); (case k12 => k_is); (case a13 => k_is); (case l13 => k_is); (case c13 => k_is); (case k13 => k_is); (case a14 => k_is); (case l14 => k_is); (case c14 => k_is); (case k14 => k_is); (case a15 => k_is); (case l15 => k_is); (case c15 => k_is); (case k15 => k_is); (case a16 => k_is); (case l16 => k_is); (case c16 => k_is); (case k16 => k_is); (case a17 => k_is); (case l17 => k_is); (case c17 => k_is); (case k17 => k_is); (case a18 => k_is); (case l18 => k_is); (case c18 => k_is); (case k18 => k_is); (case a19 => k_is); (case l19 => k_is); (case c19 => k_is); (case k19 => k_is); (case a20 => k_is); (case l20 => k_is); (case c20 => k_is); (case k20 => k_is); (case a21 => k_is); (case l21 => k_is); (case c21 => k_is); (case k21 => k_is); (case a22 => k_is); (case l22 => k_is); (case c22 => k_is); (case k22 => k_is); (case a23 => k_is); (case l23 => k_is); (case c23 => k_is); (case k23 => k_is); (case a24 => k_is); (case l24 => k_is); (case c24 => k_is); (case k24 => k_is); (case a25 => k_is); (case l25 => k_is); (case c25 => k_is); (case k25 => k_is); (case z_abs => k_is); (case z_bool => k_is); (case z_dict => k_is); (case z_int => k_is); (case z_isinstance => k_is); (case z_len => k_is); (case z_list => k_is); (case z_range => k_is); (case z_sorted => k_is); (case z_str => k_is); (case z_sum => k_is); (case z_tuple => k_is); (case y_gcd => k_is); (case q_NOTHING => k_is); (case r_NOTHING => k_is); (case q_ONE => k_is); (case r_ONE => k_is)
